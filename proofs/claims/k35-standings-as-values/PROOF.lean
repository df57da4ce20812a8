import PyProof.Rows.All
import HandS.ExcField
import Wide.All
import OpenK.AllK
import Wide.FinOn
import HandS.ForMost
import HandS.Exc
import HandS.TryOnly
import HandS.ExcOwn
import HandS.WordsExc
import HandS.IsInst
import KE.DataEq
import KE.DataCmp
import KE.SortData
import HandS.Lambda
import HandS.EndTab
import HandS.ExcInit
import HandS.HeadHook4
import KE.KDictKeyed
import KE.KeyNested
import KE.KStateDown
import HandS.Ends
import HandS.More
import HandS.Words
import HandS.Defaults
import HandS.Head0
import HandS.Head1
import HandS.Head2
import HandS.HeadEnd
import HandS.HeadHook1
import HandS.HeadHook2
import HandS.Property
import HandS.Star
import HandS.HeadNt
import KE.KOpsOwn
import PySem.Challenge.RW_rebuiltby_k35_standings_as_values
import HandS.TupAny
import HandS.Wide
import HandS.Zip
import KE.KExcSuper
import HandS.Set
import HandS.Strs
import HandS.TupSets
import HandS.Style
import HandS.Text
import HandS.Dict
import PyProof.Rows.IntBool
import KE.KRevSl
import HandS.Conv
import HandS.CallSlots
import HandS.DictComp
import KE.GoesEnum
import HandS.SetBool
import HandS.Iter
import KE.SortKeyHeap
import HandS.TupMul
import HandS.Sort
import HandS.Deep
import HandS.FStr
import HandS.MakeKwOnly
import HandS.ClsMeth
import HandS.MethStar
import HandS.CallLocal
import KE.KDictZip
import PyProof.CollectWalk
import PyProof.TupleOfSeq
import KE.KxIndex
import KE.KCallOwn
import HandS.TryMany
import PyProof.Rows.TmSorted
import HandS.Rev
import HandS.ExcIs
import PyProof.StrOps
import PyProof.TupleOps
import PyProof.ListOps
import PyProof.AutoIntOps
import KE.KDictPairs
import KE.KDictCopyH
import KE.KDictSum
import PyProof.Transfer
import HandS.TupLen
import PyProof.ReprRoads
import HandS.RaiseMore
import KE.KIntText
import HandS.NoneIn
/-! text RTop0 -/
section
set_option Elab.async false
set_option linter.all false
set_option maxRecDepth 100000
set_option maxHeartbeats 4000000
/-! RTop0: what the run of a program's head is told by (definitions only). -/
namespace RB
open PySem PySem.Spec PyProof.Rows L2
def lamQ (q : Str) : Str := (q ++ ".<locals>.") ++ "<lambda>"
def ttOf (K : PySem.W.Frag) : List (Addr × Str) := K.filterMap fun p => match p.2.data with
  | .func fd => (match fd.code with
    | .ref c => some (He.tabOf K c, lamQ fd.qualname)
    | _ => none)
  | _ => none
abbrev dd (x : Str) (st : Stmt) : He.DefD := ⟨(x, none), x, x, defArgs st, defBody st, defScope st, [], []⟩
/-- the code objects of the defs that are told, with their tables -/
def csOf (K : PySem.W.Frag) : List (Addr × Addr) := K.filterMap fun p => match p.2.data with
  | .func fd => (match fd.code with
    | .ref c => some (c, He.tabOf K c)
    | _ => none)
  | _ => none
def ttB (K : PySem.W.Frag) : Bool := (ttOf K).all fun p => (ttOf K).all fun q => !(p.1 == q.1) || decide (p.2 = q.2)
def csB (g : Addr → Option Obj) (K : PySem.W.Frag) : Bool := (csOf K).all fun p => PySem.W.codeHdIn K p.1 p.2 && (match g p.2 with
  | some o => He.emptyTab o
  | none => false)
abbrev FnI : Type := Option (Str × Str × Arguments × FuncBody × Scope × Addr × List Str × Addr × Value)
def fnI (K : PySem.W.Frag) (x : Str) : FnI := match K.lookup (He.ma K (He.ga K x) "__init__") with
  | some ⟨_, _, .func fd, _⟩ => some (fd.name, fd.qualname, fd.params, fd.body, fd.scope, fd.globals, fd.closure.map (·.1), fd.builtins, fd.defaults)
  | _ => none
/-- cls, its __init__ as the text has it, its fields -/
structure ExD where
  cls : Str
  st : Stmt
  f1 : Str
  f2 : Str
def ExD.val (d : ExD) : FnI := some (("__init__" : Str), d.cls ++ ".__init__", defArgs d.st, .stmts (defBody d.st), defScope d.st, mainGlobals, ([("__class__" : Str)] : List Str), builtinsNs, .none)
def veB (K : PySem.W.Frag) (C : Addr) : Bool := match K.lookup C with
  | some ⟨.type t, _, .cls cd, sl⟩ => (match cd.mro, sl.toList with
    | .ref C' :: bm, [_, _, _, _, some (.builtin n), _] => t == "type" && (C' == C && (n == "ValueError.__new__" && (!cd.hasDel && (cd.hasDict && PySem.HandSPX.refsVE bm))))
    | _, _ => false)
  | _ => false
def codB1 (file : Str) (K : PySem.W.Frag) (cd : Value) : Bool := match cd with
  | .ref cda => (match K.lookup cda with
    | some ⟨_, _, .fields vs, _⟩ => (match (vs[2]? : Option Value) with
      | some (.str fl _) => file == fl
      | _ => false)
    | _ => false)
  | _ => false
def codB2 (K : PySem.W.Frag) (C : Addr) (cl : List (Str × Addr)) : Bool := match cl with
  | [(_, cc)] => (match K.lookup cc with
    | some ⟨_, _, .cell (some (.ref D)), _⟩ => D == C
    | _ => false)
  | _ => false
def codB (file : Str) (K : PySem.W.Frag) (C fI : Addr) (ql : Str) : Bool := match K.lookup fI with
  | some ⟨_, _, .func fd, _⟩ => PySem.W.codeIn K fd.code ql && (codB1 file K fd.code && codB2 K C fd.closure)
  | _ => false
def exB (file : Str) (K : PySem.W.Frag) (d : ExD) : Bool :=
  He.eqO (PySem.W.nsIn K mainGlobals d.cls) (some (some (.ref (He.ga K d.cls)))) && (veB K (He.ga K d.cls) && (He.eqO (PySem.W.findIn K (.ref (He.ga K d.cls)) "__setattr__") (some (some (.builtin "object.__setattr__"))) &&
  (decide (PySem.W.subIn K (.ref (He.ga K d.cls)) (.type "BaseException") = some true) && (decide (PySem.W.typeIn K (.ref (He.ga K d.cls)) = some (.type "type")) && (PySem.W.keepIn K (.ref (He.ga K d.cls)) && (xfB K (He.ga K d.cls) &&
  (decide (PySem.W.exmOne K (.ref (He.ga K d.cls)) (.ref (He.ga K d.cls)) = some true) && (decide (PySem.W.mroIn K (He.ga K d.cls) (.ref (He.ga K d.cls)) = some true) && (He.eqO (PySem.W.ks_superIn K (He.ga K d.cls) (He.ga K d.cls) "__init__") (some (some (.builtin "ValueError.__init__"))) &&
  (decide (PySem.W.subIn K (.ref (He.ga K d.cls)) (.type "ValueError") = some true) && (He.eqO (PySem.W.nsIn K cStatics "thirdparty.any") (some none) && (He.eqO (PySem.W.nsIn K mainGlobals "super") (some none) && (He.eqO (PySem.W.findIn K (.ref (He.ga K d.cls)) d.f1) (some none) &&
  (He.eqO (PySem.W.findIn K (.ref (He.ga K d.cls)) d.f2) (some none) && (He.eqO (PySem.W.findIn K (.ref (He.ga K d.cls)) "__init__") (some (some (.ref (He.ma K (He.ga K d.cls) "__init__")))) && (decide (PySem.W.typeIn K (.ref (He.ma K (He.ga K d.cls) "__init__")) = some (.type "function")) &&
  codB file K (He.ga K d.cls) (He.ma K (He.ga K d.cls) "__init__") (d.cls ++ ".__init__")))))))))))))))))
abbrev AlR : Type := He.AlD × List FnI × Bool
def valR (fn : List He.DefD) (xs : List ExD) : AlR := (He.valD fn, xs.map ExD.val, true)
/-- what stands for the keyword x of the def f, if it is an object -/
def kwAt (f x : Str) (K : PySem.W.Frag) : Addr := match K.lookup (He.fAd K (f, none)) with
  | some ⟨_, _, .func fd, _⟩ => (match fd.kwdefaults with
    | .ref D => (match PySem.W.nsIn K D x with
      | some (some (.ref a)) => a
      | _ => 0)
    | _ => 0)
  | _ => 0
/-- the i-th of a def's defaults that are no names' own, where it is a thing of the heap -/
def dfAt (p : Str × Option Str) (i : Nat) (K : PySem.W.Frag) : Addr := match K.lookup (He.fAd K p) with
  | some ⟨_, _, .func fd, _⟩ => (match fd.defaults with
    | .ref D => (match K.lookup D with
      | some o => (match o.data with
        | .seq its _ => (match its[i]? with
          | some (.ref a) => a
          | _ => 0)
        | _ => 0)
      | none => 0)
    | _ => 0)
  | _ => 0
def emB (K : PySem.W.Frag) (p : Str × Str) : Bool := match K.lookup (kwAt p.1 p.2 K) with
  | some o => (o.cls == .type "tuple") && (match o.data with
    | .seq its _ => decide (its.toList = [])
    | _ => false)
  | none => false
abbrev AlE : Type := AlR × Bool
def valE (fn : List He.DefD) (xs : List ExD) : AlE := (valR fn xs, true)
end RB
end
/-! text RTop1 -/
section
set_option Elab.async false
set_option linter.all false
set_option maxRecDepth 100000
set_option maxHeartbeats 4000000
/-! RTop1: the observation of a head over a written list of addresses (cheaper for the kernel). -/
namespace RB
open PySem PySem.Spec PyProof.Rows L2
def ascB : Nat → List (Addr × Str) → Bool
  | _, [] => true
  | n, p :: r => HandSHeadRun.frNat p.1 fun a => Nat.blt n a && ascB a r
def obsLK (fa : List He.Fa) (fn : List He.DefD) (xs : List ExD) (em : List (Str × Str)) (file : Str) (g : Addr → Option Obj) (K : PySem.W.Frag) : AlE :=
  ((He.obsD fa fn K, xs.map (fun d => fnI K d.cls), xs.all (exB file K) && (ascB 0 (ttOf K) && csB g K)), em.all (emB K))
def obsL (as : List Addr) (fa : List He.Fa) (fn : List He.DefD) (xs : List ExD) (em : List (Str × Str)) (file : Str) (g : Addr → Option Obj) : AlE := obsLK fa fn xs em file g (He.frT g as)
/-- the run's equation, told by two runs -/
theorem runEq_two {r : PySem.W.OpenRow} {q : Program} {H : PySem.W.Hook} {ob : PySem.W.SharedT → H.α} {M : Nat} {loose : List PySem.Str} {w : World}
    (h1 : ∀ os : OsState, (HandSHeadRun.endF (HandSHeadRun.stepQ (HandSHeadRun.denQ HandSHeadRun.tabQ) r.prog w) M r.prog w os).map (fun s => (HandSHeadRun.looksF r.prog (PySem.W.boot_heap w.params) s.abs, HandSHeadRun.seenQ q loose (importedModules r.prog.main.body) (fun s => PySem.W.xlAt q [] s && PySem.W.recOk r.toRowW.records s) s.abs)) = some (true, PySem.W.openGood q loose))
    (h2 : ∀ os : OsState, (HandSHeadRun.endF (HandSHeadRun.stepQ (HandSHeadRun.denQ HandSHeadRun.tabQ) r.prog w) M r.prog w os).map ob = some (H.val w)) : HandSHeadRun.RunEq r q H ob M loose w := fun os => by
  have a := h1 os
  have b := h2 os
  revert a b
  cases HandSHeadRun.endF (HandSHeadRun.stepQ (HandSHeadRun.denQ HandSHeadRun.tabQ) r.prog w) M r.prog w os with
  | none => intro a; cases a
  | some s =>
    intro a b
    have a := Option.some.inj a
    have b := Option.some.inj b
    have a1 := (Prod.mk.inj a).1
    have a2 := (Prod.mk.inj a).2
    show some (HandSHeadRun.looksF r.prog (PySem.W.boot_heap w.params) s.abs, HandSHeadRun.seenQ q loose (importedModules r.prog.main.body) (fun s => PySem.W.xlAt q [] s && PySem.W.recOk r.toRowW.records s) s.abs, ob s) = _
    rw [a1, a2, b]
end RB
end
/-! text RTop2 -/
section
set_option Elab.async false
set_option linter.all false
set_option maxRecDepth 100000
set_option maxHeartbeats 4000000
/-! RTop2: as RTop1, with classes of the text: their properties, whether their instances may be called. -/
namespace RB
open PySem PySem.Spec PyProof.Rows L2
/-- the getter of a property -/
def prA (K : PySem.W.Frag) (cls f : Str) : Addr := He5.wf K (He.ga K cls) "property" f
/-- a def that stands behind a property, a classmethod, a staticmethod (kd) -/
structure GetD where
  cls : Str
  fld : Str
  qual : Str
  st : Stmt
  kd : String
def GetD.ad (K : PySem.W.Frag) (d : GetD) : Addr := He5.wf K (He.ga K d.cls) d.kd d.fld
def GetD.val (d : GetD) : He.FnW := some (d.fld, d.qual, defArgs d.st, .stmts (defBody d.st), defScope d.st, mainGlobals, [], builtinsNs)
def fnA (K : PySem.W.Frag) (a : Addr) : He.FnW := match K.lookup a with
  | some ⟨_, _, .func z, _⟩ => some (z.name, z.qualname, z.params, z.body, z.scope, z.globals, z.closure, z.builtins)
  | _ => none
def noneVB : Value → Bool
  | .none => true
  | _ => false
def cdIB (K : PySem.W.Frag) (a : Addr) (q : Str) : Bool := match K.lookup a with
  | some ⟨_, _, .func z, _⟩ => PySem.W.codeIn K z.code q && noneVB z.defaults
  | _ => false
def rcIB (K : PySem.W.Frag) (p g : Addr) : Bool := match PySem.W.recIn K p "property" with
  | some (.ref a :: _) => a == g
  | _ => false
def prIB (K : PySem.W.Frag) (d : GetD) : Bool := He.eqO (PySem.W.findIn K (.ref (He.ga K d.cls)) d.fld) (some (some (.ref (He.ma K (He.ga K d.cls) d.fld)))) &&
  (He.eqO (PySem.W.specialIn K (.ref (He.ma K (He.ga K d.cls) d.fld)) "__get__") (some (some (.builtin "property.__get__"))) && (decide (PySem.W.takesIn K (.ref (He.ma K (He.ga K d.cls) d.fld)) = some true) && rcIB K (He.ma K (He.ga K d.cls) d.fld) (d.ad K)))
/-- what a class or static method needs -/
def clIB (K : PySem.W.Frag) (d : GetD) : Bool := He5.wrapB K (He.ga K d.cls) d.kd (d.kd ++ ".__get__") d.fld && (PySem.W.readsIn K (He.ga K d.cls) (.type "type") &&
  (He.eqO (PySem.W.specialIn K (.ref (He.ga K d.cls)) "__getattribute__") (some (some (.builtin "type.__getattribute__"))) && PySem.W.fnIn K (d.ad K)))
def getIB (K : PySem.W.Frag) (d : GetD) : Bool :=
  PySem.W.keepIn K (.ref (d.ad K)) && (cdIB K (d.ad K) d.qual && (if d.kd = "property" then prIB K d else clIB K d))
def calIB (K : PySem.W.Frag) (cls : Str) : Bool := PySem.W.fnIn K (He.ma K (He.ga K cls) "__call__")
def strKB (e : DictEntry) : Bool := match e.key with
  | .str _ _ => true
  | _ => false
def refAB (f : Addr) : Option Value → Bool
  | some (.ref a) => a == f
  | _ => false
def noneOB : Option Value → Bool
  | none => true
  | _ => false
/-- the class has an own == and no own != -/
def oeB (K : PySem.W.Frag) (C f : Addr) : Bool := match K.lookup C, K.lookup f with
  | some ⟨.type t, _, .cls cd, sl⟩, some ⟨.type u, _, _, _⟩ => (match cd.mro, sl.toList, K.lookup cd.ns with
    | [.ref C', .type o], [_, _, _, _, some (.builtin _), _], some ⟨_, _, .dict es _, _⟩ => t == "type" && (u == "function" && (C' == C && (o == "object" && (!cd.hasDel && (es.all strKB && (refAB f (nsFind es "__eq__") && noneOB (nsFind es "__ne__")))))))
    | _, _, _ => false)
  | _, _ => false
/-- what isinstance needs of a class -/
def isIB (K : PySem.W.Frag) (cls : Str) : Bool :=
  He.eqO (PySem.W.findIn K (.ref (He.ga K cls)) "__class__") (some (some (.builtin "object.__class__"))) && (He.eqO (PySem.W.specialIn K (.builtin "object.__class__") "__get__") (some (some (.builtin "getset_descriptor.__get__"))) &&
  (decide (PySem.W.takesIn K (.builtin "object.__class__") = some true) && (decide (PySem.W.mroIn K (He.ga K cls) (.type "object") = some true) &&
  ["NoneType", "bool", "int", "str", "list", "tuple"].all fun t => decide (PySem.W.kitOne K (.type t) (.ref (He.ga K cls)) = some false))))
def kinds6 : List String := ["NoneType", "bool", "int", "str", "list", "tuple"]
def rcB : Option (Option Value) → Bool
  | some none => true
  | some (some (.ref _)) => true
  | _ => false
/-- what an own binary operator needs: the right side data or of the same class -/
def opB (K : PySem.W.Frag) (C f : Addr) (nm : String) : Bool := PySem.W.selfFirst K C && (He.eqO (PySem.W.findIn K (.ref C) (PySem.dunder nm)) (some (some (.ref f))) && (PySem.W.isFn K (.ref f) && (rcB (PySem.W.findIn K (.ref C) (dunderR nm)) &&
  kinds6.all fun t => (PySem.W.findIn K (.type t) (PySem.dunder nm)).isSome && ((PySem.W.findIn K (.type t) (dunderR nm)).isSome && decide (PySem.W.subIn K (.type t) (.ref C) = some false)))))
/-- what an own comparison needs -/
def cmB (K : PySem.W.Frag) (C f : Addr) (nm : Str) : Bool := He.eqO (PySem.W.findIn K (.ref C) nm) (some (some (.ref f))) && (PySem.W.isFn K (.ref f) && (decide (PySem.W.subIn K (.ref C) (.type "str") = some false) && kinds6.all fun t => PySem.W.notFirst K C (.type t)))
abbrev AlM : Type := AlE × List He.FnW × Bool
/-- more facts of classes: callable, isinstance, own == -/
def strV : Value → Option Str
  | .str x _ => some x
  | _ => none
/-- a tuple of texts of the module -/
def gtB (K : PySem.W.Frag) (x : Str) (ys : List Str) : Bool := match K.lookup (He.ga K x) with
  | some ⟨.type c, none, .seq its _, _⟩ => decide (c = "tuple") && (decide (its.size ≤ sizeLine) && decide (its.toList.map strV = ys.map some))
  | _ => false
def emA (K : PySem.W.Frag) (a : Addr) : Bool := match K.lookup a with
  | some o => (o.cls == .type "tuple") && (match o.data with
    | .seq its _ => decide (its.toList = [])
    | _ => false)
  | none => false
inductive Fc where
  | cal (x : Str)
  | isi (x : Str)
  | oe (x : Str)
  | bin (x : Str) (nm : String) (m : Str)
  | cmp (x nm : Str)
  | gtp (x : Str) (ys : List Str)
  | exn (a b : Str)
  | dft (x m : Str) (i : Nat)
  | exc (a b : Str) (v : Bool)
  | eis (a b : Str) (v : Bool)
  | exo (a : Str)
/-- what isinstance asks of the class of an error -/
def exoB (K : PySem.W.Frag) (D : Addr) : Bool :=
  He.eqO (PySem.W.findIn K (.ref D) "__getattribute__") (some (some (.builtin "BaseException.__getattribute__"))) && He.eqO (PySem.W.findIn K (.ref D) "__getattr__") (some none) && decide (PySem.W.subIn K (.ref D) (.type "BaseException") = some true) && PySem.W.hasDictIn K D &&
  He.eqO (PySem.W.findIn K (.ref D) "__class__") (some (some (.builtin "object.__class__"))) && He.eqO (PySem.W.specialIn K (.builtin "object.__class__") "__get__") (some (some (.builtin "getset_descriptor.__get__"))) && decide (PySem.W.takesIn K (.builtin "object.__class__") = some true) && decide (PySem.W.mroIn K D (.type "object") = some true)
def Fc.ok (K : PySem.W.Frag) : Fc → Bool
  | .cal x => calIB K x
  | .isi x => isIB K x
  | .oe x => oeB K (He.ga K x) (He.ma K (He.ga K x) "__eq__")
  | .bin x nm m => opB K (He.ga K x) (He.ma K (He.ga K x) m) nm
  | .cmp x nm => cmB K (He.ga K x) (He.ma K (He.ga K x) nm) nm
  | .gtp x ys => gtB K x ys
  | .dft x m i => emA K (dfAt (x, some m) i K)
  | .exc a b v => decide (PySem.W.exmOne K (.ref (He.ga K a)) (.ref (He.ga K b)) = some v)
  | .eis a b v => decide (PySem.W.kitOne K (.ref (He.ga K a)) (.ref (He.ga K b)) = some v)
  | .exo a => exoB K (He.ga K a)
  | .exn a b => decide (PySem.W.exmOne K (.ref (He.ga K a)) (.ref (He.ga K b)) = some false)
def obsMK (gs : List GetD) (co : List Fc) (K : PySem.W.Frag) : List He.FnW × Bool := (gs.map (fun d => fnA K (d.ad K)), gs.all (getIB K) && co.all (Fc.ok K))
def obsM (as : List Addr) (fa : List He.Fa) (fn : List He.DefD) (xs : List ExD) (em : List (Str × Str)) (gs : List GetD) (co : List Fc) (file : Str) (g : Addr → Option Obj) : AlM := (obsL as fa fn xs em file g, obsMK gs co (He.frT g as))
def valM (fn : List He.DefD) (xs : List ExD) (gs : List GetD) : AlM := (valE fn xs, gs.map GetD.val, true)
end RB
end
/-! text K35run -/
section
set_option Elab.async false
set_option linter.all false
set_option maxRecDepth 100000
set_option maxHeartbeats 0
namespace RB.Law
open PySem PySem.Spec PyProof.Rows L2 RB
def topS (i : Nat) : Stmt := PySem.Challenge.pw_rebuiltby_k35_standings_as_values.main.body.getD i (.Pass ⟨0, 0, 0, 0⟩)
def inSt (s : Stmt) (j : Nat) : Stmt := match s with
  | .ClassDef _ _ _ body _ _ _ _ _ _ _ => body.getD j (.Pass ⟨0, 0, 0, 0⟩)
  | s => s
abbrev s__law_said : Stmt := topS 18
abbrev s_is_integer : Stmt := topS 10
abbrev s_is_number : Stmt := topS 11
abbrev s__law_feed : Stmt := topS 15
abbrev s__law_draw : Stmt := topS 16
abbrev s__law_any : Stmt := topS 17
abbrev s__law_same : Stmt := topS 19
abbrev s__law_size : Stmt := topS 20
abbrev s__law_odd : Stmt := topS 21
abbrev s__law_word : Stmt := topS 22
abbrev s__law_lesser : Stmt := topS 23
abbrev s_Standing___str__ : Stmt := inSt (topS 13) 8
abbrev s_Standing_base : Stmt := inSt (topS 13) 1
abbrev s__law_is : Stmt := topS 24
abbrev s_Standing___call__ : Stmt := inSt (topS 13) 2
abbrev s_Standing___init__ : Stmt := inSt (topS 13) 0
abbrev s_Standing___neg__ : Stmt := inSt (topS 13) 3
abbrev s__law_are_answers_right : Stmt := topS 25
abbrev s_Standing___add__ : Stmt := inSt (topS 13) 4
abbrev s_Standing___radd__ : Stmt := inSt (topS 13) 5
abbrev s_Standing_open_at : Stmt := inSt (topS 13) 9
abbrev s__law_are_sums_right : Stmt := topS 26
abbrev s_Standing___eq__ : Stmt := inSt (topS 13) 7
abbrev s_Standing___le__ : Stmt := inSt (topS 13) 6
abbrev s__law_are_pairs_right : Stmt := topS 27
abbrev s__law_are_refusals_right : Stmt := topS 28
abbrev s_law : Stmt := topS 29
def as_0 : List Addr := [0, 3, 4, 6, 22, 23, 24, 25, 35, 36, 37, 47, 48, 49, 59, 60, 61, 71, 72, 73, 79, 85, 86, 87, 88, 89, 90, 91, 92, 93, 94, 100, 106, 107, 108, 109]
def as_1 : List Addr := [110, 111, 112, 113, 114, 115, 121, 127, 128, 129, 130, 131, 132, 133, 134, 135, 136, 139, 140, 141, 142, 143, 144, 145, 146, 147, 148, 149, 150, 151, 152, 160, 161, 162, 163, 164]
def as_2 : List Addr := [165, 166, 172, 173, 174, 175, 176, 177, 178, 179, 180, 181, 182, 183, 184, 185, 186, 187, 188, 189, 190, 191, 192, 193, 194, 195, 196, 197, 198, 199, 200, 201, 202, 203, 204, 205]
def as_3 : List Addr := [206, 207, 208, 209, 210, 211, 212, 213, 214, 215, 216, 217, 218, 219, 220, 221, 222, 223, 229, 230, 231, 232, 233, 234, 235, 236, 237, 238, 241, 242, 243, 244, 245, 246, 247, 248]
def as_4 : List Addr := [249, 250, 251, 252, 253, 254, 255, 256, 257, 258, 259, 260, 261, 262, 263, 264, 265, 266, 267, 268, 269, 270, 271, 272, 273, 274, 275, 276, 277, 278, 279, 280, 281, 282, 283, 284]
def as_5 : List Addr := [285, 286, 287, 288, 289, 290, 291, 292, 293, 294, 295, 296, 297, 298, 299, 300, 301, 302, 303, 304, 305, 306, 307, 308, 309, 310, 311, 312, 313, 314, 315, 316, 317, 318, 319, 320]
def as_6 : List Addr := [321, 322, 323, 324, 325, 326, 327, 328, 329, 330, 331, 332, 333, 334, 335, 336, 337, 338, 339]
def asL : List Addr := cStatics :: (as_0 ++ as_1 ++ as_2 ++ as_3 ++ as_4 ++ as_5 ++ as_6)
abbrev PP : Program := (PySem.Challenge.rw_rebuiltby_k35_standings_as_values).prog
def inS (i j : Nat) : Stmt := match topS i with
  | .ClassDef _ _ _ body _ _ _ _ _ _ _ => body.getD j (.Pass ⟨0, 0, 0, 0⟩)
  | s => s
def fnL_0 : List He.DefD := [dd "is_integer" s_is_integer, dd "is_number" s_is_number, dd "_law_feed" s__law_feed, dd "_law_draw" s__law_draw, dd "_law_any" s__law_any, dd "_law_same" s__law_same, dd "_law_size" s__law_size, dd "_law_odd" s__law_odd, dd "_law_word" s__law_word, dd "_law_lesser" s__law_lesser, ⟨("Standing", some "__str__"), "__str__", "Standing.__str__", defArgs s_Standing___str__, defBody s_Standing___str__, defScope s_Standing___str__, [], []⟩, dd "_law_is" s__law_is, ⟨("Standing", some "__call__"), "__call__", "Standing.__call__", defArgs s_Standing___call__, defBody s_Standing___call__, defScope s_Standing___call__, [], []⟩, ⟨("Standing", some "__init__"), "__init__", "Standing.__init__", defArgs s_Standing___init__, defBody s_Standing___init__, defScope s_Standing___init__, [], []⟩, ⟨("Standing", some "__neg__"), "__neg__", "Standing.__neg__", defArgs s_Standing___neg__, defBody s_Standing___neg__, defScope s_Standing___neg__, [], []⟩, dd "_law_are_answers_right" s__law_are_answers_right, ⟨("Standing", some "__add__"), "__add__", "Standing.__add__", defArgs s_Standing___add__, defBody s_Standing___add__, defScope s_Standing___add__, [], []⟩, ⟨("Standing", some "__radd__"), "__radd__", "Standing.__radd__", defArgs s_Standing___radd__, defBody s_Standing___radd__, defScope s_Standing___radd__, [], []⟩, dd "_law_are_sums_right" s__law_are_sums_right, ⟨("Standing", some "__eq__"), "__eq__", "Standing.__eq__", defArgs s_Standing___eq__, defBody s_Standing___eq__, defScope s_Standing___eq__, [], []⟩, ⟨("Standing", some "__le__"), "__le__", "Standing.__le__", defArgs s_Standing___le__, defBody s_Standing___le__, defScope s_Standing___le__, [], []⟩, dd "_law_are_pairs_right" s__law_are_pairs_right, dd "_law_are_refusals_right" s__law_are_refusals_right, dd "law" s_law, dd "_law_said" s__law_said]
def fnL : List He.DefD := fnL_0
def gsL : List GetD := [⟨"Standing", "base", "Standing.base", s_Standing_base, "property"⟩, ⟨"Standing", "open_at", "Standing.open_at", s_Standing_open_at, "staticmethod"⟩]
def coL : List Fc := [.cal "Standing", .isi "Standing", .oe "Standing", .bin "Standing" "add" "__add__", .cmp "Standing" "__eq__", .cmp "Standing" "__le__", .cmp "Standing" "__neg__", .cmp "Standing" "__radd__", .exc "InvalidPaper" "RebuiltError" true, .exo "InvalidPaper", .eis "InvalidPaper" "BookError" false, .eis "InvalidPaper" "InvalidPaper" true, .eis "InvalidPaper" "NotCalm" false, .eis "InvalidPaper" "NotUsable" false, .eis "InvalidPaper" "PaperError" true, .eis "InvalidPaper" "TextError" false, .eis "InvalidPaper" "WatchError" false, .exc "NotUsable" "RebuiltError" true, .exo "NotUsable", .eis "NotUsable" "BookError" true, .eis "NotUsable" "InvalidPaper" false, .eis "NotUsable" "NotCalm" false, .eis "NotUsable" "NotUsable" true, .eis "NotUsable" "PaperError" false, .eis "NotUsable" "TextError" false, .eis "NotUsable" "WatchError" false]
def faL_0 : List He.Fa := [.glo "is_integer", .glo "is_number", .glo "_law_feed", .glo "_law_draw", .glo "_law_any", .glo "_law_same", .glo "_law_size", .glo "_law_odd", .glo "_law_word", .glo "_law_lesser", .glo "Standing", .glo "_law_is", .glo "Standing", .glo "Standing", .glo "Standing", .glo "_law_are_answers_right", .glo "Standing", .glo "Standing", .glo "_law_are_sums_right", .glo "Standing", .glo "Standing", .glo "_law_are_pairs_right", .glo "_law_are_refusals_right", .glo "law", .glo "_law_said", .free "bool", .free "int", .free "isinstance", .free "len", .free "list", .free "range", .free "str", .free "tuple", .glo "RebuiltError", .glo "InvalidPaper", .glo "NotUsable"]
def faL_1 : List He.Fa := [.glo "BookError", .glo "NotCalm", .glo "PaperError", .glo "TextError", .glo "WatchError", .cls "Standing", .glo "Standing", .mkr "Standing", .noat "Standing" "right", .noat "Standing" "wrong", .meth "Standing" "__call__", .meth "Standing" "__str__"]
def faL : List He.Fa := faL_0 ++ faL_1
abbrev xd_InvalidPaper : ExD := ⟨"InvalidPaper", inS 6 0, "word", "at"⟩
abbrev xd_NotUsable : ExD := ⟨"NotUsable", inS 7 0, "word", "at"⟩
def xsL : List ExD := [xd_InvalidPaper, xd_NotUsable]
def loose_0 : List Str := [Str.ofString "RebuiltError", Str.ofString "PaperError", Str.ofString "BookError", Str.ofString "WatchError", Str.ofString "TextError", Str.ofString "InvalidPaper", Str.ofString "NotUsable", Str.ofString "NotCalm", Str.ofString "is_integer", Str.ofString "is_number", Str.ofString "Standing", Str.ofString "_law_feed", Str.ofString "_law_draw", Str.ofString "_law_any", Str.ofString "_law_said", Str.ofString "_law_same", Str.ofString "_law_size", Str.ofString "_law_odd", Str.ofString "_law_word", Str.ofString "_law_lesser", Str.ofString "_law_is", Str.ofString "_law_are_answers_right", Str.ofString "_law_are_sums_right", Str.ofString "_law_are_pairs_right", Str.ofString "_law_are_refusals_right"]
def loose : List Str := loose_0
abbrev R : PySem.W.OpenRow := PySem.W.OpenLaw.row PySem.Challenge.rw_rebuiltby_k35_standings_as_values
def emL : List (Str × Str) := []
def ob (s : PySem.W.SharedT) : AlM := obsM asL faL fnL xsL emL gsL coL PP.main.file (HandSHeadRun.getT s)
/-- only what is compared -/
def hk0 : PySem.W.Hook where
  α := AlM
  obs := fun s => obsM asL faL fnL xsL emL gsL coL PP.main.file s.heap.get?
  val := fun _ => valM fnL xsL gsL
  says := fun _ _ => True
  of := fun _ _ _ => trivial
  keeps := fun _ _ _ _ _ => trivial
theorem run1 (w : World) : ∀ os : OsState, (HandSHeadRun.endF (HandSHeadRun.stepQ (HandSHeadRun.denQ HandSHeadRun.tabQ) R.prog w) 6000 R.prog w os).map (fun s => (HandSHeadRun.looksF R.prog (PySem.W.boot_heap w.params) s.abs, HandSHeadRun.seenQ (PySem.W.view R.prog [29]) loose (importedModules R.prog.main.body) (fun s => PySem.W.xlAt (PySem.W.view R.prog [29]) [] s && PySem.W.recOk R.toRowW.records s) s.abs)) = some (true, PySem.W.openGood (PySem.W.view R.prog [29]) loose) := by
  intro os
  kernel_rfl
theorem run2 (w : World) : ∀ os : OsState, (HandSHeadRun.endF (HandSHeadRun.stepQ (HandSHeadRun.denQ HandSHeadRun.tabQ) R.prog w) 6000 R.prog w os).map ob = some (hk0.val w) := by
  intro os
  kernel_rfl
theorem run0 (w : World) : HandSHeadRun.RunEq R (PySem.W.view R.prog [29]) hk0 ob 6000 loose w := runEq_two (run1 w) (run2 w)
end RB.Law
end
/-! text RBase -/
section
set_option Elab.async false
set_option linter.all false
set_option maxRecDepth 100000
set_option maxHeartbeats 4000000
/-! RBase: plain data over the hand layer: what a piece of Python denotes, as a Lean function over data and a store. -/
namespace RB
open PySem PySem.Spec PyProof.Rows L2
/-- plain data: nothing in it can change -/
abbrev D := PyData
/-- a value: data, a thing of the shared store, a thing of this frame's own store, the script -/
inductive Rv where
  | v (d : D) | loc (n : Nat) | own (n : Nat) | scr (ns : List Int)
  /-- a dict that changes no more -/
  | frd (kvs : List (Key × D))
  | fdt (kvs : List (List Key × D))
  /-- a dict that the caller has locked -/
  | frk (kvs : List (Key × D))
  /-- a tuple of a dict that changes no more, and data -/
  | prd (kvs : List (Key × D)) (d : D)
  /-- a class or a def of the module, as a value -/
  | glo (nm : Str)
/-- what an address of the store holds -/
inductive Ob where
  | lst (xs : List D)
  | dic (kvs : List (Key × D))
  /-- a list that changes no more -/
  | frz (xs : List D)
  /-- a dict that changes no more -/
  | frd (kvs : List (Key × D))
  /-- a dict that is locked (walked) -/
  | lkd (kvs : List (Key × D))
  /-- a dict whose keys are tuples of ints and texts; one that changes no more -/
  | dit (kvs : List (List Key × D)) | fdt (kvs : List (List Key × D))
  /-- a dict whose keys are tuples of any depth -/
  | dnt (kvs : List (D × D))
  /-- an instance of a class of the text, its fields (data, things of the shared store) -/
  | ins (cls : Str) (fs : List (Str × Rv))
  /-- a list of things, a dict of things -/
  | rls (xs : List Rv) | rdc (kvs : List (Key × Rv))
abbrev Sto := List Ob
abbrev Vn := List (Option Rv)
/-- an exception: its class by name, its fields -/
structure Exn where
  cls : Str
  fs : List (Str × D)
/-- a tuple that stands in the frozen heap; an empty one may be a constant -/
def TupAt (K : PySem.W.Frag) (G : Hp) (a : Addr) (xs : List V) : Prop := G a = some (.tup xs) ∨ (xs = [] ∧ SqT K G a [])
section
variable (K : PySem.W.Frag) (G : Hp)
mutual
inductive Rep : V → D → Prop
  | non : Rep .non .none
  | bl (b : Bool) : Rep (.bl b) (.bool b)
  | int (i : Int) : Rep (.int i) (.int i)
  | str (x : Str) : Rep (.str x) (.str x)
  | tup {a : Addr} {xs : List V} {ds : List D} : TupAt K G a xs → Reps xs ds → Rep (.ref a) (.tuple ds)
  | lst {a : Addr} {xs : List V} {ds : List D} : G a = some (.lst xs) → Reps xs ds → Rep (.ref a) (.list ds)
inductive Reps : List V → List D → Prop
  | nil : Reps [] []
  | cons {x : V} {xs : List V} {d : D} {ds : List D} : Rep x d → Reps xs ds → Reps (x :: xs) (d :: ds)
end
end
theorem sqT_mono0 {K : PySem.W.Frag} {H H' : Hp} {a : Addr} {xs : List V} (e : Same H H') (h : SqT K H a xs) : SqT K H' a xs := by
  rcases h with (h | ⟨o, h⟩) | h
  · exact .inl (.inl (e _ _ h))
  · exact .inl (.inr ⟨o, e _ _ h⟩)
  · exact .inr h
theorem sqT_mono {K : PySem.W.Frag} {H H' : Hp} {a : Addr} {xs : List V} (e : Same H H') (h : TupAt K H a xs) : SqT K H' a xs := by
  rcases h with h | ⟨rfl, h⟩
  · exact .inl (.inl (e _ _ h))
  · exact sqT_mono0 e h
theorem tupAt_mono {K : PySem.W.Frag} {H H' : Hp} {a : Addr} {xs : List V} (e : Same H H') (h : TupAt K H a xs) : TupAt K H' a xs := by
  rcases h with h | ⟨rfl, h⟩
  · exact .inl (e _ _ h)
  · exact .inr ⟨rfl, sqT_mono0 e h⟩
section
variable {K : PySem.W.Frag} {G G' : Hp}
mutual
theorem Rep.mono (e : Same G G') : ∀ {x : V} {d : D}, Rep K G x d → Rep K G' x d
  | _, _, .non => .non
  | _, _, .bl b => .bl b
  | _, _, .int i => .int i
  | _, _, .str x => .str x
  | _, _, .tup h r => .tup (tupAt_mono e h) (Reps.mono e r)
  | _, _, .lst h r => .lst (e _ _ h) (Reps.mono e r)
theorem Reps.mono (e : Same G G') : ∀ {xs : List V} {ds : List D}, Reps K G xs ds → Reps K G' xs ds
  | _, _, .nil => .nil
  | _, _, .cons h r => .cons (Rep.mono e h) (Reps.mono e r)
end
theorem Reps.length : ∀ {xs : List V} {ds : List D}, Reps K G xs ds → xs.length = ds.length
  | _, _, .nil => rfl
  | _, _, .cons _ r => by rw [List.length_cons, List.length_cons, Reps.length r]
theorem Reps.get : ∀ {xs : List V} {ds : List D} {i : Nat} {d : D}, Reps K G xs ds → ds[i]? = some d → ∃ x, xs[i]? = some x ∧ Rep K G x d
  | _, _, _, _, .nil, e => by simp at e
  | _, _, 0, _, .cons h _, e => by simp at e; subst e; exact ⟨_, rfl, h⟩
  | _, _, i + 1, d, .cons _ r, e => by
    obtain ⟨x, h1, h2⟩ := Reps.get (i := i) (d := d) r (by simpa using e)
    exact ⟨x, by simpa using h1, h2⟩
theorem Reps.append : ∀ {xs ys : List V} {ds es : List D}, Reps K G xs ds → Reps K G ys es → Reps K G (xs ++ ys) (ds ++ es)
  | _, _, _, _, .nil, s => s
  | _, _, _, _, .cons h r, s => .cons h (Reps.append r s)
theorem Reps.take : ∀ {xs : List V} {ds : List D} (n : Nat), Reps K G xs ds → Reps K G (xs.take n) (ds.take n)
  | _, _, 0, _ => .nil
  | _, _, _ + 1, .nil => .nil
  | _, _, n + 1, .cons h r => .cons h (Reps.take n r)
theorem Reps.drop : ∀ {xs : List V} {ds : List D} (n : Nat), Reps K G xs ds → Reps K G (xs.drop n) (ds.drop n)
  | _, _, 0, r => r
  | _, _, _ + 1, .nil => .nil
  | _, _, n + 1, .cons _ r => Reps.drop n r
theorem Reps.reverse : ∀ {xs : List V} {ds : List D}, Reps K G xs ds → Reps K G xs.reverse ds.reverse
  | _, _, .nil => .nil
  | _, _, .cons h r => by
    rw [List.reverse_cons, List.reverse_cons]
    exact Reps.append (Reps.reverse r) (.cons h .nil)
end
/-! ### dicts whose keys are tuples of any depth -/
/-- the world -/
class WC (K : PySem.W.Frag) where
  w : World
mutual
def nkD : D → Option NestedKey
  | .none => some .none
  | .bool b => some (.num (if b = true then 1 else 0))
  | .int i => some (.num i)
  | .str x => some (.text x)
  | .tuple xs => (nkDs xs).map .tup
  | .list _ => none
  | .dict _ => none
def nkDs : List D → Option (List NestedKey)
  | [] => some []
  | d :: ds => match nkD d, nkDs ds with
    | some k, some ks => some (k :: ks)
    | _, _ => none
end
def DN0 (w : World) (h : Heap) (a : Addr) (ws : List (NestedKey × Addr × V)) : Prop :=
  (a == sysModules) = false ∧ ∃ xs : List (NestedKey × Addr × Value), Paired (fun (p : NestedKey × Addr × V) (q : NestedKey × Addr × Value) => p.1 = q.1 ∧ p.2.1 = q.2.1 ∧ RelV p.2.2 q.2.2) ws xs ∧
    ∃ o es ep, h.get? a = some o ∧ o.ExactDict ∧ o.data = .dict es ep ∧ es.toList = xs.map (fun x => (⟨x.1.hash w, .ref x.2.1, x.2.2⟩ : DictEntry)) ∧ (xs.map (·.1)).Nodup
def DNO (w : World) (a : Addr) (ws : List (NestedKey × Addr × V)) : HO := .ext fun h => DN0 w h a ws
inductive RepN (K : PySem.W.Frag) (G : Hp) : List (NestedKey × Addr × V) → List (D × D) → Prop
  | nil : RepN K G [] []
  | cons {k : NestedKey} {b : Addr} {v : V} {kd vd : D} {ws : List (NestedKey × Addr × V)} {kvs : List (D × D)} : nkD kd = some k → k.depth ≤ 8 → Rep K G (.ref b) kd → Rep K G v vd → RepN K G ws kvs → RepN K G ((k, b, v) :: ws) ((kd, vd) :: kvs)
theorem RepN.mono {K : PySem.W.Frag} {G G' : Hp} (e : Same G G') : ∀ {ws : List (NestedKey × Addr × V)} {kvs : List (D × D)}, RepN K G ws kvs → RepN K G' ws kvs
  | _, _, .nil => .nil
  | _, _, .cons h1 h2 h3 h4 r => .cons h1 h2 (h3.mono e) (h4.mono e) (RepN.mono e r)
/-- such a dict is no code object -/
theorem dno_ne {w : World} {a c : Addr} {q : Str} {ws : List (NestedKey × Addr × V)} : DNO w a ws ≠ LamX.CodeO c q := fun z => by
  unfold DNO LamX.CodeO at z
  injection z with z
  let o0 : Obj := { cls := .none, data := .fields #[.none, .str q 0] }
  let h0 : Heap := { objs := Array.replicate (a + c + 1) o0 }
  have g : ∀ b, b < a + c + 1 → h0.get? b = some o0 := fun b hb => by
    have e : h0.objs[b]? = some o0 := by
      show (Array.replicate (a + c + 1) o0)[b]? = some o0
      rw [Array.getElem?_replicate, if_pos hb]
    unfold Heap.get?
    rw [e]
  have h2 : DN0 w h0 a ws := (congrFun z h0).mpr ⟨o0, _, 0, g c (Nat.lt_succ_of_le (Nat.le_add_left c a)), rfl, rfl⟩
  obtain ⟨_, xs, _, o, es, ep, ho, _, hd, _⟩ := h2
  rw [g a (Nat.lt_succ_of_le (Nat.le_add_right a c))] at ho
  cases ho
  cases hd
/-! ### fields of instances -/
def RepF (K : PySem.W.Frag) (G : Hp) (L : List Addr) (x : V) : Rv → Prop
  | .v d => Rep K G x d
  | .loc n => ∃ a, L[n]? = some a ∧ x = .ref a
  | _ => False
def FldOk (K : PySem.W.Frag) (G : Hp) (L : List Addr) : List (Str × V) → List (Str × Rv) → Prop
  | [], [] => True
  | w :: ws, f :: fs => w.1 = f.1 ∧ RepF K G L w.2 f.2 ∧ FldOk K G L ws fs
  | _, _ => False
theorem pre_getF {l l' : List Addr} {n : Nat} {a : Addr} (h : l <+: l') (e : l[n]? = some a) : l'[n]? = some a := by
  obtain ⟨t, rfl⟩ := h
  rw [List.getElem?_append_left (List.getElem?_eq_some_iff.mp e).1]
  exact e
theorem RepF.mono {K : PySem.W.Frag} {G G' : Hp} {L L' : List Addr} {x : V} {r : Rv} (e : Same G G') (l : L <+: L') (h : RepF K G L x r) : RepF K G' L' x r := by
  cases r with
  | v d => exact Rep.mono e h
  | loc n => obtain ⟨a, h1, h2⟩ := h; exact ⟨a, pre_getF l h1, h2⟩
  | _ => exact (show False from h).elim
theorem FldOk.mono {K : PySem.W.Frag} {G G' : Hp} {L L' : List Addr} (e : Same G G') (l : L <+: L') : ∀ {ws : List (Str × V)} {fs : List (Str × Rv)}, FldOk K G L ws fs → FldOk K G' L' ws fs
  | [], [], _ => trivial
  | w :: ws, f :: fs, h => ⟨h.1, h.2.1.mono e l, FldOk.mono e l h.2.2⟩
  | [], _ :: _, h => (show False from h).elim
  | _ :: _, [], h => (show False from h).elim
/-- things in a row, as fields without names -/
def dumV (vs : List V) : List (Str × V) := vs.map fun v => (Str.empty, v)
def dumR (rs : List Rv) : List (Str × Rv) := rs.map fun r => (Str.empty, r)
/-! ### the store -/
/-- own things in a row -/
def RepO (K : PySem.W.Frag) (G : Hp) (L M : List Addr) (x : V) : Rv → Prop
  | .v d => Rep K G x d
  | .own n => ∃ a, M[n]? = some a ∧ x = .ref a
  | .loc n => ∃ a, L[n]? = some a ∧ x = .ref a ∧ M ≠ []
  | _ => False
def RepOs (K : PySem.W.Frag) (G : Hp) (L M : List Addr) : List V → List Rv → Prop
  | [], [] => True
  | x :: xs, r :: rs => RepO K G L M x r ∧ RepOs K G L M xs rs
  | _, _ => False
theorem RepO.mono {K : PySem.W.Frag} {G G' : Hp} {L L' M M' : List Addr} {x : V} {r : Rv} (e : Same G G') (l : L <+: L') (m : M <+: M') (h : RepO K G L M x r) : RepO K G' L' M' x r := by
  cases r with
  | v d => exact Rep.mono e h
  | own n => obtain ⟨a, h1, h2⟩ := h; exact ⟨a, pre_getF m h1, h2⟩
  | loc n =>
    obtain ⟨a, h1, h2, h3⟩ := h
    exact ⟨a, pre_getF l h1, h2, fun z => h3 (by rw [z] at m; exact List.prefix_nil.mp m)⟩
  | _ => exact (show False from h).elim
theorem RepOs.mono {K : PySem.W.Frag} {G G' : Hp} {L L' M M' : List Addr} (e : Same G G') (l : L <+: L') (m : M <+: M') : ∀ {xs : List V} {rs : List Rv}, RepOs K G L M xs rs → RepOs K G' L' M' xs rs
  | [], [], _ => trivial
  | _ :: _, _ :: _, h => ⟨h.1.mono e l m, RepOs.mono e l m h.2⟩
  | [], _ :: _, h => (show False from h).elim
  | _ :: _, [], h => (show False from h).elim
/-- the thing at a is o -/
def ROb (K : PySem.W.Frag) [WC K] (L M : List Addr) (G H : Hp) (a : Addr) : Ob → Prop
  | .lst ds => ∃ vs, H a = some (.lst vs) ∧ G a = none ∧ Reps K G vs ds
  | .dic kvs => ∃ ws, H a = some (.dK ws) ∧ G a = none ∧ ws.map (·.1) = kvs.map (·.1) ∧ Reps K G (ws.map (·.2)) (kvs.map (·.2))
  | .frz ds => ∃ vs, H a = some (.lst vs) ∧ G a = some (.lst vs) ∧ Reps K G vs ds
  | .frd kvs => ∃ ws, H a = some (.dK ws) ∧ G a = some (.dK ws) ∧ ws.map (·.1) = kvs.map (·.1) ∧ Reps K G (ws.map (·.2)) (kvs.map (·.2))
  | .lkd kvs => ∃ ws o, H a = some (.frz o (.dK ws)) ∧ G a = some (.frz o (.dK ws)) ∧ ws.map (·.1) = kvs.map (·.1) ∧ Reps K G (ws.map (·.2)) (kvs.map (·.2))
  | .dit kvs => ∃ ws, H a = some (.dT ws) ∧ G a = none ∧ ws.map (·.1) = kvs.map (·.1) ∧ Reps K G (ws.map (·.2)) (kvs.map (·.2))
  | .fdt kvs => ∃ ws, H a = some (.dT ws) ∧ G a = some (.dT ws) ∧ ws.map (·.1) = kvs.map (·.1) ∧ Reps K G (ws.map (·.2)) (kvs.map (·.2))
  | .dnt kvs => ∃ ws, H a = some (DNO (WC.w K) a ws) ∧ G a = none ∧ RepN K G ws kvs
  | .ins cls fs => ∃ dx ws, H a = some (.ins (He.ga K cls) dx ws) ∧ G a = none ∧ FldOk K G L ws fs
  | .rls rs => ∃ vs, H a = some (.lst vs) ∧ G a = none ∧ RepOs K G L M vs rs
  | .rdc kvs => ∃ ws, H a = some (.dK ws) ∧ G a = none ∧ ws.map (·.1) = kvs.map (·.1) ∧ FldOk K G L (dumV (ws.map (·.2))) (dumR (kvs.map (·.2)))
theorem ROb.held {K : PySem.W.Frag} [WC K] {L M : List Addr} {G H : Hp} {a : Addr} {o : Ob} (h : ROb K L M G H a o) : ∃ u, H a = some u := by
  cases o with
  | lst ds => obtain ⟨_, h, _⟩ := h; exact ⟨_, h⟩
  | dic kvs => obtain ⟨_, h, _⟩ := h; exact ⟨_, h⟩
  | frz ds => obtain ⟨_, h, _⟩ := h; exact ⟨_, h⟩
  | frd kvs => obtain ⟨_, h, _⟩ := h; exact ⟨_, h⟩
  | lkd kvs => obtain ⟨_, _, h, _⟩ := h; exact ⟨_, h⟩
  | dit kvs => obtain ⟨_, h, _⟩ := h; exact ⟨_, h⟩
  | fdt kvs => obtain ⟨_, h, _⟩ := h; exact ⟨_, h⟩
  | dnt kvs => obtain ⟨_, h, _⟩ := h; exact ⟨_, h⟩
  | ins cls fs => obtain ⟨_, _, h, _⟩ := h; exact ⟨_, h⟩
  | rls rs => obtain ⟨_, h, _⟩ := h; exact ⟨_, h⟩
  | rdc kvs => obtain ⟨_, h, _⟩ := h; exact ⟨_, h⟩
theorem ROb.mono2 {K : PySem.W.Frag} [WC K] {L L' M M' : List Addr} {G G' H H' : Hp} {a : Addr} {o : Ob} (l : L <+: L') (m : M <+: M') (e : Same G G') (hn : G a = none → G' a = none) (hh : ∀ u, H a = some u → H' a = some u) (h : ROb K L M G H a o) : ROb K L' M' G' H' a o := by
  cases o with
  | lst ds => obtain ⟨vs, h1, h2, h3⟩ := h; exact ⟨vs, hh _ h1, hn h2, h3.mono e⟩
  | dic kvs => obtain ⟨vs, h1, h2, h3, h4⟩ := h; exact ⟨vs, hh _ h1, hn h2, h3, h4.mono e⟩
  | frz ds => obtain ⟨vs, h1, h2, h3⟩ := h; exact ⟨vs, hh _ h1, e _ _ h2, h3.mono e⟩
  | frd kvs => obtain ⟨vs, h1, h2, h3, h4⟩ := h; exact ⟨vs, hh _ h1, e _ _ h2, h3, h4.mono e⟩
  | lkd kvs => obtain ⟨vs, o, h1, h2, h3, h4⟩ := h; exact ⟨vs, o, hh _ h1, e _ _ h2, h3, h4.mono e⟩
  | dit kvs => obtain ⟨vs, h1, h2, h3, h4⟩ := h; exact ⟨vs, hh _ h1, hn h2, h3, h4.mono e⟩
  | fdt kvs => obtain ⟨vs, h1, h2, h3, h4⟩ := h; exact ⟨vs, hh _ h1, e _ _ h2, h3, h4.mono e⟩
  | dnt kvs => obtain ⟨vs, h1, h2, h3⟩ := h; exact ⟨vs, hh _ h1, hn h2, h3.mono e⟩
  | ins cls fs => obtain ⟨dx, vs, h1, h2, h3⟩ := h; exact ⟨dx, vs, hh _ h1, hn h2, h3.mono e l⟩
  | rls rs => obtain ⟨vs, h1, h2, h3⟩ := h; exact ⟨vs, hh _ h1, hn h2, h3.mono e l m⟩
  | rdc kvs => obtain ⟨vs, h1, h2, h3, h4⟩ := h; exact ⟨vs, hh _ h1, hn h2, h3, h4.mono e l⟩
theorem ROb.mono {K : PySem.W.Frag} [WC K] {L L' M : List Addr} {G G' H H' : Hp} {a : Addr} {o : Ob} (l : L <+: L') (e : Same G G') (hn : G a = none → G' a = none) (hh : ∀ u, H a = some u → H' a = some u) (h : ROb K L M G H a o) : ROb K L' M G' H' a o := h.mono2 l (List.prefix_refl M) e hn hh
theorem ROb.monoM {K : PySem.W.Frag} [WC K] {L M M' : List Addr} {G H : Hp} {a : Addr} {o : Ob} (m : M <+: M') (h : ROb K L M G H a o) : ROb K L M' G H a o := h.mono2 (List.prefix_refl L) m (Same.refl G) (fun z => z) fun _ z => z
/-! ### tables of code objects: of every def that is told -/
structure Tbs (K : PySem.W.Frag) (G H : Hp) : Prop where
  tab : LamX.Tabs (ttOf K) H
  gt : ∀ a ps, G a ≠ some (.tbl ps)
theorem tab_upd {K : PySem.W.Frag} {H : Hp} {a : Addr} {o u : HO} (t : LamX.Tabs (ttOf K) H) (ha : H a = some o) (n1 : ∀ ps, o ≠ .tbl ps) (n2 : ∀ c q, o ≠ LamX.CodeO c q) : LamX.Tabs (ttOf K) (upd H a u) := fun p hp => by
  obtain ⟨ps, h1, h2, h3⟩ := t p hp
  refine ⟨ps, ?_, h2, fun pos cv hc => ?_⟩
  · rw [upd_ne (fun z => by rw [z, ha] at h1; exact n1 ps (Option.some.inj h1))]; exact h1
  · obtain ⟨c, e1, e2⟩ := h3 pos cv hc
    refine ⟨c, e1, ?_⟩
    rw [upd_ne (fun z => by rw [z, ha] at e2; exact n2 _ _ (Option.some.inj e2))]; exact e2
theorem tbs_upd {K : PySem.W.Frag} {G H : Hp} {a : Addr} {o u : HO} (t : Tbs K G H) (ha : H a = some o) (n1 : ∀ ps, o ≠ .tbl ps) (n2 : ∀ c q, o ≠ LamX.CodeO c q) (hu : ∀ ps, u ≠ .tbl ps) : Tbs K G (upd H a u) :=
  ⟨tab_upd t.tab ha n1 n2, t.gt⟩
theorem tbs_same {K : PySem.W.Frag} {G H H' : Hp} (t : Tbs K G H) (h : Same H H') (hn : ∀ a ps, H' a = some (.tbl ps) → H a = some (.tbl ps)) : Tbs K G H' := ⟨LamX.Tabs.ext t.tab h, t.gt⟩
theorem tbs_g {K : PySem.W.Frag} {G H : Hp} {a : Addr} {u : HO} (t : Tbs K G H) (hu : ∀ ps, u ≠ .tbl ps) : Tbs K (upd G a u) H := ⟨t.tab, fun b ps h => by
    by_cases e : b = a
    · subst e; rw [upd_same] at h; exact hu ps (Option.some.inj h)
    · rw [upd_ne e] at h; exact t.gt b ps h⟩
theorem tbl_new {H : Hp} {p : Addr} {u : HO} (hu : ∀ ps, u ≠ .tbl ps) : ∀ a ps, upd H p u a = some (.tbl ps) → H a = some (.tbl ps) := fun a ps h => by
  by_cases e : a = p
  · subst e; rw [upd_same] at h; exact (hu ps (Option.some.inj h)).elim
  · rw [upd_ne e] at h; exact h
theorem ROb.plain {K : PySem.W.Frag} [WC K] {L M : List Addr} {G H : Hp} {a : Addr} {o : Ob} (h : ROb K L M G H a o) : ∃ u, H a = some u ∧ (∀ ps, u ≠ .tbl ps) ∧ ∀ c q, u ≠ LamX.CodeO c q := by
  cases o with
  | lst ds => obtain ⟨vs, h, _⟩ := h; exact ⟨_, h, fun _ z => (by cases z), fun _ _ z => (by cases z)⟩
  | dic kvs => obtain ⟨vs, h, _⟩ := h; exact ⟨_, h, fun _ z => (by cases z), fun _ _ z => (by cases z)⟩
  | frz ds => obtain ⟨vs, h, _⟩ := h; exact ⟨_, h, fun _ z => (by cases z), fun _ _ z => (by cases z)⟩
  | frd kvs => obtain ⟨vs, h, _⟩ := h; exact ⟨_, h, fun _ z => (by cases z), fun _ _ z => (by cases z)⟩
  | lkd kvs => obtain ⟨vs, _, h, _⟩ := h; exact ⟨_, h, fun _ z => (by cases z), fun _ _ z => (by cases z)⟩
  | dit kvs => obtain ⟨vs, h, _⟩ := h; exact ⟨_, h, fun _ z => (by cases z), fun _ _ z => (by cases z)⟩
  | fdt kvs => obtain ⟨vs, h, _⟩ := h; exact ⟨_, h, fun _ z => (by cases z), fun _ _ z => (by cases z)⟩
  | dnt kvs => obtain ⟨vs, h, _⟩ := h; exact ⟨_, h, fun _ z => (by cases z), fun _ _ => dno_ne⟩
  | ins cls fs => obtain ⟨_, vs, h, _⟩ := h; exact ⟨_, h, fun _ z => (by cases z), fun _ _ z => (by cases z)⟩
  | rls rs => obtain ⟨vs, h, _⟩ := h; exact ⟨_, h, fun _ z => (by cases z), fun _ _ z => (by cases z)⟩
  | rdc kvs => obtain ⟨vs, h, _⟩ := h; exact ⟨_, h, fun _ z => (by cases z), fun _ _ z => (by cases z)⟩
theorem ROb.noTup {K : PySem.W.Frag} [WC K] {L M : List Addr} {G H : Hp} {a : Addr} {o : Ob} {xs : List V} (h : ROb K L M G H a o) (e : H a = some (.tup xs)) : False := by
  cases o with
  | lst ds => obtain ⟨vs, h, _⟩ := h; rw [e] at h; cases h
  | dic kvs => obtain ⟨vs, h, _⟩ := h; rw [e] at h; cases h
  | frz ds => obtain ⟨vs, h, _⟩ := h; rw [e] at h; cases h
  | frd kvs => obtain ⟨vs, h, _⟩ := h; rw [e] at h; cases h
  | lkd kvs => obtain ⟨vs, _, h, _⟩ := h; rw [e] at h; cases h
  | dit kvs => obtain ⟨vs, h, _⟩ := h; rw [e] at h; cases h
  | fdt kvs => obtain ⟨vs, h, _⟩ := h; rw [e] at h; cases h
  | dnt kvs => obtain ⟨vs, h, _⟩ := h; rw [e] at h; cases h
  | ins cls fs => obtain ⟨_, vs, h, _⟩ := h; rw [e] at h; cases h
  | rls rs => obtain ⟨vs, h, _⟩ := h; rw [e] at h; cases h
  | rdc kvs => obtain ⟨vs, h, _⟩ := h; rw [e] at h; cases h
/-- the heap H holds the frozen G and, at L and M, the stores S and T -/
structure Fits (K : PySem.W.Frag) [WC K] (G H : Hp) (L M : List Addr) (T S : Sto) : Prop where
  sub : Same G H
  nd : (L ++ M).Nodup
  lenL : L.length = S.length
  lenM : M.length = T.length
  obL : ∀ (n : Nat) (a : Addr) (o : Ob), L[n]? = some a → S[n]? = some o → ROb K L [] G H a o
  obM : ∀ (n : Nat) (a : Addr) (o : Ob), M[n]? = some a → T[n]? = some o → ROb K L M G H a o
  tbs : Tbs K G H
/-- nothing is known of a, or a table stands there -/
def Fre (H : Hp) (a : Addr) : Prop := H a = none ∨ ∃ ps, H a = some (.tbl ps)
theorem Fre.no {H : Hp} {a : Addr} {o : HO} (h : Fre H a) (e : H a = some o) (nt : ∀ ps, o ≠ .tbl ps) : False := by
  rcases h with h | ⟨ps, h⟩
  · rw [e] at h; cases h
  · rw [e] at h; exact nt ps (Option.some.inj h)
/-- what may change -/
structure Ext (G H : Hp) (L M : List Addr) (G' H' : Hp) (L' M' : List Addr) : Prop where
  gm : Same G G'
  lp : L <+: L'
  mp : M <+: M'
  keep : ∀ a o, H a = some o → (∀ ps, o ≠ .tbl ps) → a ∉ L → a ∉ M → H' a = some o
  dom : ∀ a o, H a = some o → (∀ ps, o ≠ .tbl ps) → ∃ o', H' a = some o' ∧ ∀ ps, o' ≠ .tbl ps
  gn : ∀ a o, G' a = some o → G a = some o ∨ Fre H a ∨ a ∈ M ∨ (a ∉ L ∧ ∃ xs, H a = some (.tup xs))
  ln : ∀ a, a ∈ L' → a ∈ L ∨ Fre H a
  mn : ∀ a, a ∈ M' → a ∈ M ∨ Fre H a
theorem Ext.refl (G H : Hp) (L M : List Addr) : Ext G H L M G H L M :=
  ⟨Same.refl G, List.prefix_refl L, List.prefix_refl M, fun _ _ h _ _ _ => h, fun _ o h nt => ⟨o, h, nt⟩, fun _ _ h => .inl h, fun _ h => .inl h, fun _ h => .inl h⟩
theorem Ext.fre {G H G1 H1 : Hp} {L M L1 M1 : List Addr} {x : Addr} (a : Ext G H L M G1 H1 L1 M1) (h : Fre H1 x) : Fre H x := by
  cases e : H x with
  | none => exact .inl e
  | some u =>
    by_cases nt : ∀ ps, u ≠ .tbl ps
    · obtain ⟨o1, h1, n1⟩ := a.dom x u e nt
      exact (h.no h1 n1).elim
    · rw [Classical.not_forall] at nt
      obtain ⟨ps, hp⟩ := nt
      exact .inr ⟨ps, by rw [e, Classical.not_not.mp hp]⟩
theorem Ext.trans {G H G1 H1 G2 H2 : Hp} {L M L1 M1 L2 M2 : List Addr} (a : Ext G H L M G1 H1 L1 M1) (b : Ext G1 H1 L1 M1 G2 H2 L2 M2) : Ext G H L M G2 H2 L2 M2 where
  gm := a.gm.trans b.gm
  lp := a.lp.trans b.lp
  mp := a.mp.trans b.mp
  keep := fun x o h nt hl hm => b.keep x o (a.keep x o h nt hl hm) nt (fun z => (a.ln x z).elim hl fun q => q.no h nt) fun z => (a.mn x z).elim hm fun q => q.no h nt
  dom := fun x o h nt => let ⟨o1, h1, n1⟩ := a.dom x o h nt; b.dom x o1 h1 n1
  gn := fun x o h => by
    rcases b.gn x o h with q | q | q | ⟨q1, xs, q2⟩
    · exact a.gn x o q
    · exact .inr (.inl (a.fre q))
    · exact (a.mn x q).elim (fun z => .inr (.inr (.inl z))) fun z => .inr (.inl z)
    · by_cases hm : x ∈ M
      · exact .inr (.inr (.inl hm))
      · cases e : H x with
        | none => exact .inr (.inl (.inl e))
        | some u =>
          by_cases nt : ∀ ps, u ≠ .tbl ps
          · have hl : x ∉ L := fun z => q1 (a.lp.subset z)
            have := a.keep x u e nt hl hm
            rw [q2] at this
            cases this
            exact .inr (.inr (.inr ⟨hl, xs, rfl⟩))
          · rw [Classical.not_forall] at nt
            obtain ⟨ps, hp⟩ := nt
            exact .inr (.inl (.inr ⟨ps, by rw [e, Classical.not_not.mp hp]⟩))
  ln := fun x h => (b.ln x h).elim (a.ln x) fun q => .inr (a.fre q)
  mn := fun x h => (b.mn x h).elim (a.mn x) fun q => .inr (a.fre q)
/-- a value of the layer below stands for a value here -/
def RepR (K : PySem.W.Frag) (G : Hp) (L M : List Addr) (x : V) : Rv → Prop
  | .v d => Rep K G x d
  | .loc n => ∃ a, L[n]? = some a ∧ x = .ref a
  | .own n => ∃ a, M[n]? = some a ∧ x = .ref a
  | .scr ns => ∃ a, x = .ref a ∧ SqL K G a (ns.map V.int)
  | .frd kvs => ∃ a ws, x = .ref a ∧ G a = some (.dK ws) ∧ ws.map (·.1) = kvs.map (·.1) ∧ Reps K G (ws.map (·.2)) (kvs.map (·.2))
  | .fdt kvs => ∃ a ws, x = .ref a ∧ G a = some (.dT ws) ∧ ws.map (·.1) = kvs.map (·.1) ∧ Reps K G (ws.map (·.2)) (kvs.map (·.2))
  | .frk kvs => ∃ a ws o, x = .ref a ∧ G a = some (.frz o (.dK ws)) ∧ ws.map (·.1) = kvs.map (·.1) ∧ Reps K G (ws.map (·.2)) (kvs.map (·.2))
  | .prd kvs d => ∃ b a ws y, x = .ref b ∧ G b = some (.tup [.ref a, y]) ∧ G a = some (.dK ws) ∧ ws.map (·.1) = kvs.map (·.1) ∧ Reps K G (ws.map (·.2)) (kvs.map (·.2)) ∧ Rep K G y d
  | .glo nm => x = .ref (He.ga K nm)
inductive RepRs (K : PySem.W.Frag) (G : Hp) (L M : List Addr) : List V → List Rv → Prop
  | nil : RepRs K G L M [] []
  | cons {x : V} {xs : List V} {r : Rv} {rs : List Rv} : RepR K G L M x r → RepRs K G L M xs rs → RepRs K G L M (x :: xs) (r :: rs)
theorem pre_get {α : Type} {l l' : List α} {n : Nat} {a : α} (h : l <+: l') (e : l[n]? = some a) : l'[n]? = some a := by
  obtain ⟨t, rfl⟩ := h
  rw [List.getElem?_append_left (List.getElem?_eq_some_iff.mp e).1]
  exact e
section
variable {K : PySem.W.Frag} [WC K] {G H G' H' : Hp} {L M L' M' : List Addr} {T S T' S' : Sto}
theorem RepR.monoL {x : V} {r : Rv} (g : Same G G') (lp : L <+: L') (mp : M <+: M') (h : RepR K G L M x r) : RepR K G' L' M' x r := by
  cases r with
  | v d => exact Rep.mono g h
  | loc n => obtain ⟨a, h1, h2⟩ := h; exact ⟨a, pre_get lp h1, h2⟩
  | own n => obtain ⟨a, h1, h2⟩ := h; exact ⟨a, pre_get mp h1, h2⟩
  | scr ns => obtain ⟨a, h1, h2⟩ := h; exact ⟨a, h1, g.seq h2⟩
  | frd kvs => obtain ⟨a, ws, h1, h2, h3, h4⟩ := h; exact ⟨a, ws, h1, g _ _ h2, h3, h4.mono g⟩
  | fdt kvs => obtain ⟨a, ws, h1, h2, h3, h4⟩ := h; exact ⟨a, ws, h1, g _ _ h2, h3, h4.mono g⟩
  | frk kvs => obtain ⟨a, ws, o, h1, h2, h3, h4⟩ := h; exact ⟨a, ws, o, h1, g _ _ h2, h3, h4.mono g⟩
  | prd kvs d => obtain ⟨b, a, ws, y, h1, h2, h3, h4, h5, h6⟩ := h; exact ⟨b, a, ws, y, h1, g _ _ h2, g _ _ h3, h4, h5.mono g, h6.mono g⟩
  | glo nm => exact h
theorem RepR.mono {x : V} {r : Rv} (e : Ext G H L M G' H' L' M') (h : RepR K G L M x r) : RepR K G' L' M' x r := h.monoL e.gm e.lp e.mp
theorem RepRs.mono (e : Ext G H L M G' H' L' M') : ∀ {xs : List V} {rs : List Rv}, RepRs K G L M xs rs → RepRs K G' L' M' xs rs
  | _, _, .nil => .nil
  | _, _, .cons h r => .cons (h.mono e) (RepRs.mono e r)
theorem RepRs.length : ∀ {xs : List V} {rs : List Rv}, RepRs K G L M xs rs → xs.length = rs.length
  | _, _, .nil => rfl
  | _, _, .cons _ r => by rw [List.length_cons, List.length_cons, RepRs.length r]
/-- the slots -/
def Slots (K : PySem.W.Frag) (G : Hp) (L M : List Addr) (ρ : Vn) (σ : L2.St) : Prop :=
  ∀ (i : Nat) (r : Rv), ρ[i]? = some (some r) → ∃ x, σ[i]? = some (some x) ∧ RepR K G L M x r
theorem Slots.mono {ρ : Vn} {σ : L2.St} (e : Ext G H L M G' H' L' M') (h : Slots K G L M ρ σ) : Slots K G' L' M' ρ σ := fun i r hr => by
  obtain ⟨x, h1, h2⟩ := h i r hr
  exact ⟨x, h1, h2.mono e⟩
theorem Slots.set {ρ : Vn} {σ : L2.St} {i : Nat} {x : V} {r : Rv} (h : Slots K G L M ρ σ) (hl : ρ.length = σ.length) (hr : RepR K G L M x r) : Slots K G L M (ρ.set i (some r)) (σ.set i (some x)) := fun j q hq => by
  by_cases e : i = j
  · subst e
    have hi : i < ρ.length := by
      have := (List.getElem?_eq_some_iff.mp hq).1
      rw [List.length_set] at this
      exact this
    rw [List.getElem?_set_self hi] at hq
    cases hq
    exact ⟨x, List.getElem?_set_self (by rw [← hl]; exact hi), hr⟩
  · rw [List.getElem?_set_ne e] at hq ⊢
    exact h j q hq
theorem Slots.unset {ρ : Vn} {σ : L2.St} {i : Nat} {y : Option V} (h : Slots K G L M ρ σ) : Slots K G L M (ρ.set i none) (σ.set i y) := fun j q hq => by
  by_cases e : i = j
  · subst e
    have hi : i < ρ.length := by
      have := (List.getElem?_eq_some_iff.mp hq).1
      rw [List.length_set] at this
      exact this
    rw [List.getElem?_set_self hi] at hq
    cases hq
  · rw [List.getElem?_set_ne e] at hq ⊢
    exact h j q hq
/-! ### moves of the heap -/
theorem Fits.new {p : Addr} {o : HO} (f : Fits K G H L M T S) (hp : H p = none) (ho : ∀ ps, o ≠ .tbl ps) : Ext G H L M (upd G p o) (upd H p o) L M ∧ Fits K (upd G p o) (upd H p o) L M T S := by
  have gp : G p = none := f.sub.free hp
  have g1 : Same G (upd G p o) := fun a u h => by rw [upd_ne (ne_of_none h gp)]; exact h
  have h1 : Same H (upd H p o) := fun a u h => by rw [upd_ne (ne_of_none h hp)]; exact h
  have nn : ∀ a u, H a = some u → G a = none → upd G p o a = none := fun a u ha hg => by rw [upd_ne (ne_of_none ha hp)]; exact hg
  refine ⟨⟨g1, List.prefix_refl L, List.prefix_refl M, fun a u h _ _ _ => h1 a u h, fun a u h nt => ⟨u, h1 a u h, nt⟩, fun a u h => ?_, fun _ h => .inl h, fun _ h => .inl h⟩,
    ⟨fun a u h => ?_, f.nd, f.lenL, f.lenM, fun n a q e1 e2 => ?_, fun n a q e1 e2 => ?_, tbs_g (tbs_same f.tbs h1 (tbl_new ho)) ho⟩⟩
  · by_cases ha : a = p
    · subst ha; exact .inr (.inl (.inl hp))
    · rw [upd_ne ha] at h; exact .inl h
  · by_cases ha : a = p
    · subst ha; rw [upd_same] at h ⊢; exact h
    · rw [upd_ne ha] at h ⊢; exact f.sub a u h
  · have b := f.obL n a q e1 e2
    obtain ⟨u, hu⟩ := ROb.held b
    exact ROb.mono (List.prefix_refl _) g1 (nn a u hu) (fun z hz => h1 a z hz) b
  · have b := f.obM n a q e1 e2
    obtain ⟨u, hu⟩ := ROb.held b
    exact ROb.mono (List.prefix_refl _) g1 (nn a u hu) (fun z hz => h1 a z hz) b
/-- all that was tracked is kept -/
theorem Fits.kept (f : Fits K G H L M T S) (h1 : Same H H') (hn : ∀ a ps, H' a = some (.tbl ps) → H a = some (.tbl ps)) : Ext G H L M G H' L M ∧ Fits K G H' L M T S :=
  ⟨⟨Same.refl G, List.prefix_refl L, List.prefix_refl M, fun a u h _ _ _ => h1 a u h, fun a u h nt => ⟨u, h1 a u h, nt⟩, fun a u h => .inl h, fun _ h => .inl h, fun _ h => .inl h⟩,
   ⟨f.sub.trans h1, f.nd, f.lenL, f.lenM, fun n a q e1 e2 => ROb.mono (List.prefix_refl _) (Same.refl G) (fun z => z) (fun z hz => h1 a z hz) (f.obL n a q e1 e2), fun n a q e1 e2 => ROb.mono (List.prefix_refl _) (Same.refl G) (fun z => z) (fun z hz => h1 a z hz) (f.obM n a q e1 e2), tbs_same f.tbs h1 hn⟩⟩
theorem nd_get {A : List Addr} (h : A.Nodup) {i j : Nat} {a : Addr} (e1 : A[i]? = some a) (e2 : A[j]? = some a) : i = j := by
  obtain ⟨h1, q1⟩ := List.getElem?_eq_some_iff.mp e1
  obtain ⟨h2, q2⟩ := List.getElem?_eq_some_iff.mp e2
  exact (List.getElem_inj h).mp (q1.trans q2.symm)
theorem Fits.ndL (f : Fits K G H L M T S) : L.Nodup := (List.nodup_append.mp f.nd).1
theorem Fits.ndM (f : Fits K G H L M T S) : M.Nodup := (List.nodup_append.mp f.nd).2.1
theorem Fits.apart (f : Fits K G H L M T S) {a : Addr} (h1 : a ∈ L) (h2 : a ∈ M) : False := (List.nodup_append.mp f.nd).2.2 a h1 a h2 rfl
/-- a new thing of the frame's own -/
theorem Fits.newM {p : Addr} {u : HO} {o : Ob} (f : Fits K G H L M T S) (hp : H p = none) (ho : ROb K L M G (upd H p u) p o) (hu : ∀ ps, u ≠ .tbl ps) :
    Ext G H L M G (upd H p u) L (M ++ [p]) ∧ Fits K G (upd H p u) L (M ++ [p]) (T ++ [o]) S := by
  have h1 : Same H (upd H p u) := fun a x h => by rw [upd_ne (ne_of_none h hp)]; exact h
  have nl : p ∉ L := fun z => by
    obtain ⟨n, hn⟩ := List.mem_iff_getElem?.mp z
    have hl : n < S.length := by rw [← f.lenL]; exact (List.getElem?_eq_some_iff.mp hn).1
    obtain ⟨x, hx⟩ := ROb.held (f.obL n p _ hn (List.getElem?_eq_getElem hl))
    rw [hp] at hx; cases hx
  have nm : p ∉ M := fun z => by
    obtain ⟨n, hn⟩ := List.mem_iff_getElem?.mp z
    have hl : n < T.length := by rw [← f.lenM]; exact (List.getElem?_eq_some_iff.mp hn).1
    obtain ⟨x, hx⟩ := ROb.held (f.obM n p _ hn (List.getElem?_eq_getElem hl))
    rw [hp] at hx; cases hx
  refine ⟨⟨Same.refl G, List.prefix_refl L, List.prefix_append M [p], fun a x h _ _ _ => h1 a x h, fun a x h nt => ⟨x, h1 a x h, nt⟩, fun a x h => .inl h, fun _ h => .inl h, fun a h => ?_⟩,
    ⟨f.sub.trans h1, ?_, f.lenL, by rw [List.length_append, List.length_append, f.lenM]; rfl, fun n a q e1 e2 => ROb.mono (List.prefix_refl _) (Same.refl G) (fun z => z) (fun z hz => h1 a z hz) (f.obL n a q e1 e2), fun n a q e1 e2 => ?_, tbs_same f.tbs h1 (tbl_new hu)⟩⟩
  · rcases List.mem_append.mp h with z | z
    · exact .inl z
    · rw [List.mem_singleton] at z; subst z; exact .inr (.inl hp)
  · rw [← List.append_assoc]
    refine List.nodup_append.mpr ⟨f.nd, List.nodup_cons.mpr ⟨by simp, List.nodup_nil⟩, fun a ha b hb e => ?_⟩
    rw [List.mem_singleton] at hb
    subst hb; subst e
    exact (List.mem_append.mp ha).elim nl nm
  · by_cases hn : n < M.length
    · rw [List.getElem?_append_left hn] at e1
      rw [List.getElem?_append_left (by rw [← f.lenM]; exact hn)] at e2
      exact (ROb.mono (List.prefix_refl _) (Same.refl G) (fun z => z) (fun z hz => h1 a z hz) (f.obM n a q e1 e2)).monoM (List.prefix_append _ _)
    · rw [List.getElem?_append_right (by omega)] at e1
      rw [List.getElem?_append_right (by have := f.lenM; omega)] at e2
      have hz : n - M.length = 0 := by
        have := (List.getElem?_eq_some_iff.mp e1).1
        simp at this
        omega
      rw [hz] at e1
      rw [← f.lenM, hz] at e2
      cases e1; cases e2
      exact ho.monoM (List.prefix_append _ _)
/-- a thing of the frame's own changes -/
theorem Fits.setM {n : Nat} {a : Addr} {u : HO} {o : Ob} (f : Fits K G H L M T S) (ha : M[n]? = some a) (hg : G a = none) (ho : ROb K L M G (upd H a u) a o) (hu : ∀ ps, u ≠ .tbl ps) :
    Ext G H L M G (upd H a u) L M ∧ Fits K G (upd H a u) L M (T.set n o) S := by
  have am : a ∈ M := List.mem_of_getElem? ha
  have tb : Tbs K G (upd H a u) := by
    obtain ⟨u0, h0, n1, n2⟩ := ROb.plain (f.obM n a _ ha (List.getElem?_eq_getElem (show n < T.length by rw [← f.lenM]; exact (List.getElem?_eq_some_iff.mp ha).1)))
    exact tbs_upd f.tbs h0 n1 n2 hu
  refine ⟨⟨Same.refl G, List.prefix_refl L, List.prefix_refl M, fun b x h _ _ hm => by rw [upd_ne (fun z => hm (by rw [z]; exact am))]; exact h, fun b x h nt => ?_, fun b x h => .inl h, fun _ h => .inl h, fun _ h => .inl h⟩,
    ⟨fun b x h => by rw [upd_ne (ne_of_none h hg)]; exact f.sub b x h, f.nd, f.lenL, by rw [List.length_set]; exact f.lenM, fun k b q e1 e2 => ROb.mono (List.prefix_refl _) (Same.refl G) (fun z => z) (fun z hz => ?_) (f.obL k b q e1 e2), fun k b q e1 e2 => ?_, tb⟩⟩
  · by_cases e : b = a
    · subst e; exact ⟨u, upd_same, hu⟩
    · rw [upd_ne e]; exact ⟨x, h, nt⟩
  · rw [upd_ne (fun e => f.apart (List.mem_of_getElem? e1) (by rw [e]; exact am))]; exact hz
  · by_cases e : n = k
    · subst e
      rw [ha] at e1; cases e1
      rw [List.getElem?_set_self (by rw [← f.lenM]; exact (List.getElem?_eq_some_iff.mp ha).1)] at e2
      cases e2
      exact ho
    · rw [List.getElem?_set_ne e] at e2
      refine ROb.mono (List.prefix_refl _) (Same.refl G) (fun z => z) (fun z hz => ?_) (f.obM k b q e1 e2)
      rw [upd_ne (show b ≠ a from fun w => e (nd_get f.ndM ha (by rw [← w]; exact e1)))]; exact hz
/-- a thing of the shared store changes -/
theorem Fits.setL {n : Nat} {a : Addr} {u : HO} {o : Ob} (f : Fits K G H L M T S) (ha : L[n]? = some a) (hg : G a = none) (ho : ROb K L [] G (upd H a u) a o) (hu : ∀ ps, u ≠ .tbl ps) :
    Ext G H L M G (upd H a u) L M ∧ Fits K G (upd H a u) L M T (S.set n o) := by
  have am : a ∈ L := List.mem_of_getElem? ha
  have tb : Tbs K G (upd H a u) := by
    obtain ⟨u0, h0, n1, n2⟩ := ROb.plain (f.obL n a _ ha (List.getElem?_eq_getElem (show n < S.length by rw [← f.lenL]; exact (List.getElem?_eq_some_iff.mp ha).1)))
    exact tbs_upd f.tbs h0 n1 n2 hu
  refine ⟨⟨Same.refl G, List.prefix_refl L, List.prefix_refl M, fun b x h _ hm _ => by rw [upd_ne (fun z => hm (by rw [z]; exact am))]; exact h, fun b x h nt => ?_, fun b x h => .inl h, fun _ h => .inl h, fun _ h => .inl h⟩,
    ⟨fun b x h => by rw [upd_ne (ne_of_none h hg)]; exact f.sub b x h, f.nd, by rw [List.length_set]; exact f.lenL, f.lenM, fun k b q e1 e2 => ?_, fun k b q e1 e2 => ROb.mono (List.prefix_refl _) (Same.refl G) (fun z => z) (fun z hz => ?_) (f.obM k b q e1 e2), tb⟩⟩
  · by_cases e : b = a
    · subst e; exact ⟨u, upd_same, hu⟩
    · rw [upd_ne e]; exact ⟨x, h, nt⟩
  · by_cases e : n = k
    · subst e
      rw [ha] at e1; cases e1
      rw [List.getElem?_set_self (by rw [← f.lenL]; exact (List.getElem?_eq_some_iff.mp ha).1)] at e2
      cases e2
      exact ho
    · rw [List.getElem?_set_ne e] at e2
      refine ROb.mono (List.prefix_refl _) (Same.refl G) (fun z => z) (fun z hz => ?_) (f.obL k b q e1 e2)
      rw [upd_ne (show b ≠ a from fun w => e (nd_get f.ndL ha (by rw [← w]; exact e1)))]; exact hz
  · rw [upd_ne (fun e => f.apart (by rw [← e] at am; exact am) (List.mem_of_getElem? e1))]; exact hz
end
/-! ### data that is told is plain, and reads as itself -/
section
variable {K : PySem.W.Frag} {G H : Hp}
mutual
theorem Rep.plain : ∀ {x : V} {d : D}, Rep K G x d → d.plain = true
  | _, _, .non => rfl
  | _, _, .bl b => rfl
  | _, _, .int i => rfl
  | _, _, .str x => rfl
  | _, _, .tup _ r => Reps.plain r
  | _, _, .lst _ r => Reps.plain r
theorem Reps.plain : ∀ {xs : List V} {ds : List D}, Reps K G xs ds → PyData.plainAll ds = true
  | _, _, .nil => rfl
  | _, _, .cons h r => by
    show (PyData.plain _ && PyData.plainAll _) = true
    rw [Rep.plain h, Reps.plain r]; rfl
end
mutual
theorem Rep.dp (e : Same G H) : ∀ {x : V} {d : D}, Rep K G x d → Dp K H x d
  | _, _, .non => .non
  | _, _, .bl b => .bl b
  | _, _, .int i => .int i
  | _, _, .str x => .str x
  | _, _, .tup h r => .tup (sqT_mono e h) (Reps.dp e r)
  | _, _, .lst h r => .lst (.inl (.inl (e _ _ h))) (Reps.dp e r)
theorem Reps.dp (e : Same G H) : ∀ {xs : List V} {ds : List D}, Reps K G xs ds → DpAll K H xs ds
  | _, _, .nil => .nil
  | _, _, .cons h r => .cons (Rep.dp e h) (Reps.dp e r)
end
end
end RB
end
/-! text RSem -/
section
set_option Elab.async false
set_option linter.all false
set_option maxRecDepth 100000
set_option maxHeartbeats 4000000
/-! RSem: judgements: a piece of Python denotes a Lean function. -/
namespace RB
open PySem PySem.Spec PyProof.Rows L2
instance wcBlk {X : Cx} [h : WC X.K] {s : Shared} {H : Hp} {sc : Scope} {e : Env} {fp : List Addr} : WC (X.blk s H sc e fp).K := h
instance wcFn {CX : CXT} {P : Program} {w : World} {K : PySem.W.Frag} [h : WC K] {mg : Str → Option Value} {base : Heap} {N : List Str} {qual : Str} {sc : Scope} {f : Addr} {cdv : Value} {A : Around} {outer : List Env} {s : Shared} {H : Hp} {E : XK} : WC (cxOf CX P w K mg base N qual sc f cdv A outer s H E).K := h
inductive Res (α : Type) where
  | ok (a : α) (T S : Sto)
  | exn (x : Exn) (T S : Sto)
  | bad
abbrev EM (α : Type) := Vn → Sto → Sto → Res α
def Res.bind {α β : Type} (r : Res α) (k : α → Sto → Sto → Res β) : Res β := match r with
  | .ok a T S => k a T S
  | .exn x T S => .exn x T S
  | .bad => .bad
@[simp] theorem Res.bind_ok {α β : Type} (a : α) (T S : Sto) (k : α → Sto → Sto → Res β) : (Res.ok a T S).bind k = k a T S := rfl
@[simp] theorem Res.bind_exn {α β : Type} (x : Exn) (T S : Sto) (k : α → Sto → Sto → Res β) : (Res.exn x T S : Res α).bind k = .exn x T S := rfl
@[simp] theorem Res.bind_bad {α β : Type} (k : α → Sto → Sto → Res β) : (Res.bad : Res α).bind k = .bad := rfl
/-- an exception below stands for one here -/
def RepX (ct : Str → Option Addr) (K : PySem.W.Frag) [WC K] (G H : Hp) (c : Value) (d : Option Addr) (x : Exn) : Prop :=
  ∃ C dx fs, ct x.cls = some C ∧ c = .ref C ∧ d = some dx ∧ H dx = some (.xd fs) ∧ fs.map (·.1) = x.fs.map (·.1) ∧ Reps K G (fs.map (·.2)) (x.fs.map (·.2))
section
variable (ct : Str → Option Addr) (K : PySem.W.Frag) [WC K] (W : WX)
def Sat {α β : Type} (G H : Hp) (L M : List Addr) (σ : L2.St) (rel : Hp → List Addr → List Addr → β → α → Prop) (Q : β → Hp → Prop) : Res α → Prop
  | .ok a T' S' => ∀ G' H' L' M' y, Ext G H L M G' H' L' M' → Fits K G' H' L' M' T' S' → rel G' L' M' y a → Q y H'
  | .exn x T' S' => ∀ G' H' L' M' c d, Ext G H L M G' H' L' M' → Fits K G' H' L' M' T' S' → RepX ct K G' H' c d x → W c d σ H'
  | .bad => False
end
section
variable {ct : Str → Option Addr} {K : PySem.W.Frag} [WC K] {W : WX} {α β γ δ : Type} {G H G1 H1 : Hp} {L M L1 M1 : List Addr} {σ : L2.St}
theorem Sat.pre {rel : Hp → List Addr → List Addr → β → α → Prop} {Q : β → Hp → Prop} {r : Res α} (e : Ext G H L M G1 H1 L1 M1) (h : Sat ct K W G H L M σ rel Q r) : Sat ct K W G1 H1 L1 M1 σ rel Q r := by
  cases r with
  | ok a T S => exact fun G' H' L' M' y e' f q => h G' H' L' M' y (e.trans e') f q
  | exn x T S => exact fun G' H' L' M' c d e' f q => h G' H' L' M' c d (e.trans e') f q
  | bad => exact h
theorem Sat.bind {rel : Hp → List Addr → List Addr → β → α → Prop} {rel2 : Hp → List Addr → List Addr → δ → γ → Prop} {Q1 : β → Hp → Prop} {Q2 : δ → Hp → Prop} {r : Res α} {k : α → Sto → Sto → Res γ}
    (h : Sat ct K W G H L M σ rel2 Q2 (r.bind k))
    (hk : ∀ a T' S' G' H' L' M' y, Ext G H L M G' H' L' M' → Fits K G' H' L' M' T' S' → rel G' L' M' y a → Sat ct K W G' H' L' M' σ rel2 Q2 (k a T' S') → Q1 y H') : Sat ct K W G H L M σ rel Q1 r := by
  cases r with
  | ok a T S => exact fun G' H' L' M' y e f q => hk a T S G' H' L' M' y e f q (Sat.pre e h)
  | exn x T S => exact h
  | bad => exact h
end
abbrev relB : Hp → List Addr → List Addr → Bool → Bool → Prop := fun _ _ _ b b' => b = b'
section
variable (ct : Str → Option Addr) (X : Cx) [WC X.K] (W : WX)
def SE (e : Expr) (m : EM Rv) : Prop :=
  ∃ t, PE X e t ∧ ∀ (ρ : Vn) (T S : Sto) (G H : Hp) (L M : List Addr) (σ : L2.St) (Q : VK), ρ.length = σ.length → Fits X.K G H L M T S → Slots X.K G L M ρ σ → Sat ct X.K W G H L M σ (RepR X.K) Q (m ρ T S) → t σ H Q
def ST (e : Expr) (m : EM Bool) : Prop :=
  ∃ t, PT X e t ∧ ∀ (ρ : Vn) (T S : Sto) (G H : Hp) (L M : List Addr) (σ : L2.St) (Q : Bool → Hp → Prop), ρ.length = σ.length → Fits X.K G H L M T S → Slots X.K G L M ρ σ → Sat ct X.K W G H L M σ relB Q (m ρ T S) → t σ H Q
/-- a test made of and, or -/
def SW (e : Expr) (m : EM Bool) : Prop :=
  ∃ t, PW X e t ∧ ∀ (ρ : Vn) (T S : Sto) (G H : Hp) (L M : List Addr) (σ : L2.St) (Q : Bool → Hp → Prop), ρ.length = σ.length → Fits X.K G H L M T S → Slots X.K G L M ρ σ → Sat ct X.K W G H L M σ relB Q (m ρ T S) → t σ H Q
def SA (es : List Expr) (m : EM (List Rv)) : Prop :=
  ∃ t, PA X es t ∧ ∀ (ρ : Vn) (T S : Sto) (G H : Hp) (L M : List Addr) (σ : L2.St) (Q : List V → Hp → Prop), ρ.length = σ.length → Fits X.K G H L M T S → Slots X.K G L M ρ σ → Sat ct X.K W G H L M σ (RepRs X.K) Q (m ρ T S) → t σ H Q
/-- an operation on two values -/
def OpS (f : Value → Value → Sem Value) (o : Rv → Rv → Sto → Sto → Res Rv) : Prop :=
  ∃ r, OpR X f r ∧ ∀ (x y : V) (a b : Rv) (T S : Sto) (G H : Hp) (L M : List Addr) (σ : L2.St) (Q : VK), Fits X.K G H L M T S → RepR X.K G L M x a → RepR X.K G L M y b → Sat ct X.K W G H L M σ (RepR X.K) Q (o a b T S) → r x y H Q
def IxS (o : Rv → Rv → Sto → Sto → Res Rv) : Prop :=
  ∃ r, IxR X r ∧ ∀ (x y : V) (a b : Rv) (T S : Sto) (G H : Hp) (L M : List Addr) (σ : L2.St) (Q : VK), Fits X.K G H L M T S → RepR X.K G L M x a → RepR X.K G L M y b → Sat ct X.K W G H L M σ (RepR X.K) Q (o a b T S) → r x y H Q
def CallS (f : Value) (o : List Rv → Sto → Sto → Res Rv) : Prop :=
  ∃ r, CallR X f r ∧ ∀ (xs : List V) (rs : List Rv) (T S : Sto) (G H : Hp) (L M : List Addr) (σ : L2.St) (Q : VK), Fits X.K G H L M T S → RepRs X.K G L M xs rs → Sat ct X.K W G H L M σ (RepR X.K) Q (o rs T S) → r xs H Q
end
/-! ### names and constants -/
def getV (i : Nat) : EM Rv := fun ρ T S => match ρ[i]? with
  | some (some r) => .ok r T S
  | _ => .bad
def cst (d : D) : EM Rv := fun _ T S => .ok (.v d) T S
section
variable {ct : Str → Option Addr} {X : Cx} [WC X.K] {W : WX} {pos : Pos}
theorem se_var {i : Nat} {x : Str} (hN : X.N[i]? = some x) (hv : Vis X.env.scope x) (hd : (x == ("__debug__" : Str)) = false) (hcd : (x == ("__classdict__" : Str)) = false) : SE ct X W (.Name x pos) (getV i) := by
  refine ⟨tVar i, pe_var hN hv hd hcd, fun ρ T S G H L M σ Q hl f sl h => ?_⟩
  unfold getV at h
  cases e : ρ[i]? with
  | none => rw [e] at h; exact h.elim
  | some o =>
    cases o with
    | none => rw [e] at h; exact h.elim
    | some r =>
      rw [e] at h
      obtain ⟨x, h1, h2⟩ := sl i r e
      exact ⟨x, h1, h G H L M x (Ext.refl G H L M) f h2⟩
theorem se_of {e : Expr} {v : V} {d : D} (h : PE X e (tC v)) (hr : ∀ G, Rep X.K G v d) : SE ct X W e (cst d) :=
  ⟨tC v, h, fun ρ T S G H L M σ Q hl f sl q => q G H L M v (Ext.refl G H L M) f (hr G)⟩
theorem se_int {i : Int} {j} : SE ct X W (.Constant (.int i) j pos) (cst (.int i)) := se_of pe_int fun _ => .int i
theorem se_bl {b : Bool} {j} : SE ct X W (.Constant (.bool b) j pos) (cst (.bool b)) := se_of pe_bl fun _ => .bl b
theorem se_non {j} : SE ct X W (.Constant .none j pos) (cst .none) := se_of pe_non fun _ => .non
theorem se_str {x : Str} {j} : SE ct X W (.Constant (.str x) j pos) (cst (.str x)) := se_of pe_str fun _ => .str x
/-! ### two expressions -/
def bin (o : Rv → Rv → Sto → Sto → Res Rv) (ma mb : EM Rv) : EM Rv := fun ρ T S => (ma ρ T S).bind fun a T S => (mb ρ T S).bind fun b T S => o a b T S
variable {a b c : Expr} {ma mb mc : EM Rv}
theorem bin_ok {ta tb : TE} {r : R2} {o : Rv → Rv → Sto → Sto → Res Rv}
    (ha : ∀ (ρ : Vn) (T S : Sto) (G H : Hp) (L M : List Addr) (σ : L2.St) (Q : VK), ρ.length = σ.length → Fits X.K G H L M T S → Slots X.K G L M ρ σ → Sat ct X.K W G H L M σ (RepR X.K) Q (ma ρ T S) → ta σ H Q)
    (hb : ∀ (ρ : Vn) (T S : Sto) (G H : Hp) (L M : List Addr) (σ : L2.St) (Q : VK), ρ.length = σ.length → Fits X.K G H L M T S → Slots X.K G L M ρ σ → Sat ct X.K W G H L M σ (RepR X.K) Q (mb ρ T S) → tb σ H Q)
    (ho : ∀ (x y : V) (a b : Rv) (T S : Sto) (G H : Hp) (L M : List Addr) (σ : L2.St) (Q : VK), Fits X.K G H L M T S → RepR X.K G L M x a → RepR X.K G L M y b → Sat ct X.K W G H L M σ (RepR X.K) Q (o a b T S) → r x y H Q)
    (ρ : Vn) (T S : Sto) (G H : Hp) (L M : List Addr) (σ : L2.St) (Q : VK) (hl : ρ.length = σ.length) (f : Fits X.K G H L M T S) (sl : Slots X.K G L M ρ σ) (h : Sat ct X.K W G H L M σ (RepR X.K) Q (bin o ma mb ρ T S)) : tOp r ta tb σ H Q := by
  refine ha ρ T S G H L M σ _ hl f sl (Sat.bind h fun va T1 S1 G1 H1 L1 M1 x e1 f1 r1 h1 => ?_)
  refine hb ρ T1 S1 G1 H1 L1 M1 σ _ hl f1 (sl.mono e1) (Sat.bind h1 fun vb T2 S2 G2 H2 L2 M2 y e2 f2 r2 h2 => ?_)
  exact ho x y va vb T2 S2 G2 H2 L2 M2 σ Q f2 (r1.mono e2) r2 h2
theorem se_op {op : Operator} {o : Rv → Rv → Sto → Sto → Res Rv} (ho : OpS ct X W (binaryOp op) o) (ha : SE ct X W a ma) (hb : SE ct X W b mb) : SE ct X W (.BinOp a op b pos) (bin o ma mb) := by
  obtain ⟨ta, pa, qa⟩ := ha
  obtain ⟨tb, pb, qb⟩ := hb
  obtain ⟨r, po, qo⟩ := ho
  exact ⟨tOp r ta tb, pe_op po pa pb, bin_ok qa qb qo⟩
theorem se_cmp {op : CmpOp} {o : Rv → Rv → Sto → Sto → Res Rv} (ho : OpS ct X W (compareOp op) o) (ha : SE ct X W a ma) (hb : SE ct X W b mb) (hm : behindInMarks op b = false) : SE ct X W (.Compare a [op] [b] pos) (bin o ma mb) := by
  obtain ⟨ta, pa, qa⟩ := ha
  obtain ⟨tb, pb, qb⟩ := hb
  obtain ⟨r, po, qo⟩ := ho
  exact ⟨tOp r ta tb, pe_cmpR po pa pb hm, bin_ok qa qb qo⟩
theorem se_ix {o : Rv → Rv → Sto → Sto → Res Rv} (ho : IxS ct X W o) (ha : SE ct X W a ma) (hb : SE ct X W b mb) (hs : PlainIx b) : SE ct X W (.Subscript a b pos) (bin o ma mb) := by
  obtain ⟨ta, pa, qa⟩ := ha
  obtain ⟨tb, pb, qb⟩ := hb
  obtain ⟨r, po, qo⟩ := ho
  exact ⟨tOp r ta tb, pe_ix po pa pb hs, bin_ok qa qb qo⟩
/-! ### tests -/
/-- a value that is a truth value -/
def asB (m : EM Rv) : EM Bool := fun ρ T S => (m ρ T S).bind fun r T S => match r with
  | .v (.bool b) => .ok b T S
  | _ => .bad
theorem asB_ok {t : TE} {m : EM Rv}
    (ha : ∀ (ρ : Vn) (T S : Sto) (G H : Hp) (L M : List Addr) (σ : L2.St) (Q : VK), ρ.length = σ.length → Fits X.K G H L M T S → Slots X.K G L M ρ σ → Sat ct X.K W G H L M σ (RepR X.K) Q (m ρ T S) → t σ H Q)
    (ρ : Vn) (T S : Sto) (G H : Hp) (L M : List Addr) (σ : L2.St) (Q : Bool → Hp → Prop) (hl : ρ.length = σ.length) (f : Fits X.K G H L M T S) (sl : Slots X.K G L M ρ σ) (h : Sat ct X.K W G H L M σ relB Q (asB m ρ T S)) : tB t σ H Q := by
  refine ha ρ T S G H L M σ _ hl f sl (Sat.bind h fun r T1 S1 G1 H1 L1 M1 x e1 f1 r1 h1 => ?_)
  cases r with
  | v d =>
    cases d with
    | bool b =>
      cases (show Rep X.K G1 x (.bool b) from r1)
      exact ⟨b, rfl, h1 G1 H1 L1 M1 b (Ext.refl _ _ _ _) f1 rfl⟩
    | _ => exact (show False from h1).elim
  | _ => exact (show False from h1).elim
theorem st_val {e : Expr} {m : EM Rv} (h : SE ct X W e m) (he : ∀ whole, isTrue e X.env whole = (do let v ← whole; standAt e.pos; holding [v] (truthy v))) : ST ct X W e (asB m) := by
  obtain ⟨t, p, q⟩ := h
  exact ⟨tB t, pt_val p he, asB_ok q⟩
theorem st_cmp {op : CmpOp} {o : Rv → Rv → Sto → Sto → Res Rv} (ho : OpS ct X W (compareOp op) o) (ha : SE ct X W a ma) (hb : SE ct X W b mb) (hm : behindInMarks op b = false) : ST ct X W (.Compare a [op] [b] pos) (asB (bin o ma mb)) := by
  obtain ⟨ta, pa, qa⟩ := ha
  obtain ⟨tb, pb, qb⟩ := hb
  obtain ⟨r, po, qo⟩ := ho
  exact ⟨tB (tOp r ta tb), pt_cmpR po pa pb hm, asB_ok (bin_ok qa qb qo)⟩
def notM (m : EM Bool) : EM Bool := fun ρ T S => (m ρ T S).bind fun b T S => .ok (!b) T S
theorem st_not {m : EM Bool} (h : ST ct X W a m) : ST ct X W (.UnaryOp .Not a pos) (notM m) := by
  obtain ⟨t, p, q⟩ := h
  refine ⟨tNot t, pt_not p, fun ρ T S G H L M σ Q hl f sl h => ?_⟩
  refine q ρ T S G H L M σ _ hl f sl (Sat.bind h fun r T1 S1 G1 H1 L1 M1 x e1 f1 r1 h1 => ?_)
  cases r1
  exact h1 G1 H1 L1 M1 _ (Ext.refl _ _ _ _) f1 rfl
def andM (m n : EM Bool) : EM Bool := fun ρ T S => (m ρ T S).bind fun b T S => if b = true then n ρ T S else .ok false T S
def orM (m n : EM Bool) : EM Bool := fun ρ T S => (m ρ T S).bind fun b T S => if b = true then .ok true T S else n ρ T S
variable {rest : List Expr} {m n : EM Bool}
theorem sw_and1 (h : ST ct X W a m) : SW ct X W (.BoolOp .And [a] pos) m := by
  obtain ⟨t, p, q⟩ := h
  exact ⟨t, pw_and1 p, q⟩
theorem sw_or1 (h : ST ct X W a m) : SW ct X W (.BoolOp .Or [a] pos) m := by
  obtain ⟨t, p, q⟩ := h
  exact ⟨t, pw_or1 p, q⟩
theorem sw_and (h : ST ct X W a m) (h2 : SW ct X W (.BoolOp .And (b :: rest) pos) n) : SW ct X W (.BoolOp .And (a :: b :: rest) pos) (andM m n) := by
  obtain ⟨t, p, q⟩ := h
  obtain ⟨t2, p2, q2⟩ := h2
  refine ⟨tAnd t t2, pw_and p p2, fun ρ T S G H L M σ Q hl f sl h => ?_⟩
  refine q ρ T S G H L M σ _ hl f sl (Sat.bind h fun r T1 S1 G1 H1 L1 M1 x e1 f1 r1 h1 => ?_)
  cases r1
  cases r with
  | true => exact q2 ρ T1 S1 G1 H1 L1 M1 σ Q hl f1 (sl.mono e1) h1
  | false => exact h1 G1 H1 L1 M1 _ (Ext.refl _ _ _ _) f1 rfl
theorem sw_or (h : ST ct X W a m) (h2 : SW ct X W (.BoolOp .Or (b :: rest) pos) n) : SW ct X W (.BoolOp .Or (a :: b :: rest) pos) (orM m n) := by
  obtain ⟨t, p, q⟩ := h
  obtain ⟨t2, p2, q2⟩ := h2
  refine ⟨tOr t t2, pw_or p p2, fun ρ T S G H L M σ Q hl f sl h => ?_⟩
  refine q ρ T S G H L M σ _ hl f sl (Sat.bind h fun r T1 S1 G1 H1 L1 M1 x e1 f1 r1 h1 => ?_)
  cases r1
  cases r with
  | true => exact h1 G1 H1 L1 M1 _ (Ext.refl _ _ _ _) f1 rfl
  | false => exact q2 ρ T1 S1 G1 H1 L1 M1 σ Q hl f1 (sl.mono e1) h1
theorem st_w {e : Expr} (h : SW ct X W e m) : ST ct X W e m := by
  obtain ⟨t, p, q⟩ := h
  exact ⟨t, p.pt, q⟩
/-! as values -/
def andV (m n : EM Rv) : EM Rv := fun ρ T S => (m ρ T S).bind fun r T S => match r with
  | .v (.bool true) => n ρ T S
  | .v (.bool false) => .ok (.v (.bool false)) T S
  | _ => .bad
def orV (m n : EM Rv) : EM Rv := fun ρ T S => (m ρ T S).bind fun r T S => match r with
  | .v (.bool true) => .ok (.v (.bool true)) T S
  | .v (.bool false) => n ρ T S
  | _ => .bad
def notV (m : EM Rv) : EM Rv := fun ρ T S => (m ρ T S).bind fun r T S => match r with
  | .v (.bool b) => .ok (.v (.bool (!b))) T S
  | _ => .bad
theorem se_one {op} (h : SE ct X W a ma) : SE ct X W (.BoolOp op [a] pos) ma := by
  obtain ⟨t, p, q⟩ := h
  exact ⟨t, pe_one p, q⟩
theorem se_and (h : SE ct X W a ma) (h2 : SE ct X W (.BoolOp .And (b :: rest) pos) mb) : SE ct X W (.BoolOp .And (a :: b :: rest) pos) (andV ma mb) := by
  obtain ⟨t, p, q⟩ := h
  obtain ⟨t2, p2, q2⟩ := h2
  refine ⟨tAndV t t2, pe_and p p2, fun ρ T S G H L M σ Q hl f sl h => ?_⟩
  refine q ρ T S G H L M σ _ hl f sl (Sat.bind h fun r T1 S1 G1 H1 L1 M1 x e1 f1 r1 h1 => ?_)
  cases r with
  | v d =>
    cases d with
    | bool k =>
      cases (show Rep X.K G1 x (.bool k) from r1)
      refine ⟨k, rfl, ?_⟩
      cases k with
      | true => exact q2 ρ T1 S1 G1 H1 L1 M1 σ Q hl f1 (sl.mono e1) h1
      | false => exact h1 G1 H1 L1 M1 _ (Ext.refl _ _ _ _) f1 (.bl false)
    | _ => exact (show False from h1).elim
  | _ => exact (show False from h1).elim
theorem se_not (h : SE ct X W a ma) : SE ct X W (.UnaryOp .Not a pos) (notV ma) := by
  obtain ⟨t, p, q⟩ := h
  refine ⟨tNotV t, pe_not p, fun ρ T S G H L M σ Q hl f sl h => ?_⟩
  refine q ρ T S G H L M σ _ hl f sl (Sat.bind h fun r T1 S1 G1 H1 L1 M1 x e1 f1 r1 h1 => ?_)
  cases r with
  | v d =>
    cases d with
    | bool k =>
      cases (show Rep X.K G1 x (.bool k) from r1)
      exact ⟨k, rfl, h1 G1 H1 L1 M1 _ (Ext.refl _ _ _ _) f1 (.bl (!k))⟩
    | _ => exact (show False from h1).elim
  | _ => exact (show False from h1).elim
def ifM (c : EM Bool) (m n : EM Rv) : EM Rv := fun ρ T S => (c ρ T S).bind fun b T S => if b = true then m ρ T S else n ρ T S
theorem se_if (hc : ST ct X W c m) (ha : SE ct X W a ma) (hb : SE ct X W b mb) : SE ct X W (.IfExp c a b pos) (ifM m ma mb) := by
  obtain ⟨t, p, q⟩ := hc
  obtain ⟨ta, pa, qa⟩ := ha
  obtain ⟨tb, pb, qb⟩ := hb
  refine ⟨tIf t ta tb, pe_ifExp p pa pb, fun ρ T S G H L M σ Q hl f sl h => ?_⟩
  refine q ρ T S G H L M σ _ hl f sl (Sat.bind h fun r T1 S1 G1 H1 L1 M1 x e1 f1 r1 h1 => ?_)
  cases r1
  cases r with
  | true => exact qa ρ T1 S1 G1 H1 L1 M1 σ Q hl f1 (sl.mono e1) h1
  | false => exact qb ρ T1 S1 G1 H1 L1 M1 σ Q hl f1 (sl.mono e1) h1
/-- a < b < c -/
def chn (o o' : Rv → Rv → Sto → Sto → Res Rv) (ma mb mc : EM Rv) : EM Rv := fun ρ T S => (ma ρ T S).bind fun a T S => (mb ρ T S).bind fun b T S => (o a b T S).bind fun r T S => match r with
  | .v (.bool true) => (mc ρ T S).bind fun c T S => o' b c T S
  | .v (.bool false) => .ok (.v (.bool false)) T S
  | _ => .bad
/-! ### arguments -/
def nilA : EM (List Rv) := fun _ T S => .ok [] T S
def consA (m : EM Rv) (ms : EM (List Rv)) : EM (List Rv) := fun ρ T S => (m ρ T S).bind fun r T S => (ms ρ T S).bind fun rs T S => .ok (r :: rs) T S
theorem sa_nil : SA ct X W [] nilA := ⟨tNil, pa_nil, fun ρ T S G H L M σ Q hl f sl q => q G H L M [] (Ext.refl G H L M) f .nil⟩
theorem sa_cons {e : Expr} {es : List Expr} {me : EM Rv} {ms : EM (List Rv)} (h : SE ct X W e me) (hr : SA ct X W es ms) (hs : starEach (e :: es) X.env = (false, eval e X.env) :: starEach es X.env) : SA ct X W (e :: es) (consA me ms) := by
  obtain ⟨t, p, q⟩ := h
  obtain ⟨t2, p2, q2⟩ := hr
  refine ⟨tCons t t2, pa_cons p p2 hs, fun ρ T S G H L M σ Q hl f sl h => ?_⟩
  refine q ρ T S G H L M σ _ hl f sl (Sat.bind h fun r T1 S1 G1 H1 L1 M1 x e1 f1 r1 h1 => ?_)
  refine q2 ρ T1 S1 G1 H1 L1 M1 σ _ hl f1 (sl.mono e1) (Sat.bind h1 fun rs T2 S2 G2 H2 L2 M2 xs e2 f2 r2 h2 => ?_)
  exact h2 G2 H2 L2 M2 (x :: xs) (Ext.refl _ _ _ _) f2 (.cons (r1.mono e2) r2)
end
end RB
end
/-! text ROps -/
section
set_option Elab.async false
set_option linter.all false
set_option maxRecDepth 100000
set_option maxHeartbeats 4000000
/-! ROps: operations on values. -/
namespace RB
open PySem PySem.Spec PyProof.Rows L2
/-! ### what a value reads as -/
/-- a list that can be read -/
def obList : Option Ob → Option (List D)
  | some (.lst xs) => some xs
  | some (.frz xs) => some xs
  | _ => none
def lstOf (r : Rv) (T S : Sto) : Option (List D) := match r with
  | .v (.list xs) => some xs
  | .own n => obList T[n]?
  | .loc n => obList S[n]?
  | _ => none
/-- the datum as it stands -/
def look (r : Rv) (T S : Sto) : Option D := match r with
  | .v d => some d
  | .scr ns => some (.list (ns.map .int))
  | r => (lstOf r T S).map .list
section
variable {K : PySem.W.Frag} [WC K] {G H : Hp} {L M : List Addr} {T S : Sto} {x : V} {r : Rv}
theorem lt_of_get {α : Type} {l : List α} {n : Nat} {a : α} (h : l[n]? = some a) : n < l.length := (List.getElem?_eq_some_iff.mp h).1
theorem lstOf_ok {ds : List D} (f : Fits K G H L M T S) (h : RepR K G L M x r) (e : lstOf r T S = some ds) : ∃ a vs, x = .ref a ∧ H a = some (.lst vs) ∧ Reps K G vs ds := by
  cases r with
  | v d =>
    cases d with
    | list xs =>
      cases (show Rep K G x (.list xs) from h) with
      | @lst a vs _ hg hr =>
        cases e
        exact ⟨a, vs, rfl, f.sub _ _ hg, hr⟩
    | _ => cases e
  | own n =>
    obtain ⟨a, ha, rfl⟩ := h
    have e : obList T[n]? = some ds := e
    cases q : T[n]? with
    | none => rw [q] at e; cases e
    | some o =>
      rw [q] at e
      have b := f.obM n a o ha q
      cases o with
      | lst xs => cases e; obtain ⟨vs, h1, h2, h3⟩ := b; exact ⟨a, vs, rfl, h1, h3⟩
      | frz xs => cases e; obtain ⟨vs, h1, h2, h3⟩ := b; exact ⟨a, vs, rfl, h1, h3⟩
      | dic kvs => cases e
      | frd kvs => cases e
      | lkd kvs => cases e
      | dit kvs => cases e
      | fdt kvs => cases e
      | dnt kvs => cases e
      | ins cls fs => cases e
      | rls rs => cases e
      | rdc kvs => cases e
  | loc n =>
    obtain ⟨a, ha, rfl⟩ := h
    have e : obList S[n]? = some ds := e
    cases q : S[n]? with
    | none => rw [q] at e; cases e
    | some o =>
      rw [q] at e
      have b := f.obL n a o ha q
      cases o with
      | lst xs => cases e; obtain ⟨vs, h1, h2, h3⟩ := b; exact ⟨a, vs, rfl, h1, h3⟩
      | frz xs => cases e; obtain ⟨vs, h1, h2, h3⟩ := b; exact ⟨a, vs, rfl, h1, h3⟩
      | dic kvs => cases e
      | frd kvs => cases e
      | lkd kvs => cases e
      | dit kvs => cases e
      | fdt kvs => cases e
      | dnt kvs => cases e
      | ins cls fs => cases e
      | rls rs => cases e
      | rdc kvs => cases e
  | scr ns => cases e
  | frd kvs => cases e
  | fdt kvs => cases e
  | frk kvs => cases e
  | prd kvs d => cases e
  | glo nm => cases e
theorem dp_ints (K : PySem.W.Frag) [WC K] (H : Hp) : ∀ ns : List Int, DpAll K H (ns.map V.int) (ns.map PyData.int)
  | [] => .nil
  | n :: ns => .cons (.int n) (dp_ints K H ns)
theorem plain_ints : ∀ ns : List Int, PyData.plainAll (ns.map PyData.int) = true
  | [] => rfl
  | n :: ns => by show (PyData.plain (.int n) && PyData.plainAll (ns.map PyData.int)) = true; rw [plain_ints ns]; rfl
theorem look_ok {d : D} (f : Fits K G H L M T S) (h : RepR K G L M x r) (e : look r T S = some d) : Dp K H x d ∧ d.plain = true := by
  cases r with
  | v d' => cases e; exact ⟨Rep.dp f.sub h, Rep.plain h⟩
  | scr ns =>
    cases e
    obtain ⟨a, rfl, hs⟩ := h
    exact ⟨.lst (f.sub.seq hs) (dp_ints K H ns), plain_ints ns⟩
  | frd kvs => cases e
  | fdt kvs => cases e
  | frk kvs => cases e
  | prd kvs d => cases e
  | glo nm => cases e
  | own n =>
    cases q : lstOf (.own n) T S with
    | none => have e : (lstOf _ T S).map PyData.list = some d := e; rw [q] at e; cases e
    | some ds =>
      have e : (lstOf _ T S).map PyData.list = some d := e
      rw [q] at e; cases e
      obtain ⟨a, vs, rfl, h1, h2⟩ := lstOf_ok f h q
      exact ⟨.lst (.inl (.inl h1)) (Reps.dp f.sub h2), Reps.plain h2⟩
  | loc n =>
    cases q : lstOf (.loc n) T S with
    | none => have e : (lstOf _ T S).map PyData.list = some d := e; rw [q] at e; cases e
    | some ds =>
      have e : (lstOf _ T S).map PyData.list = some d := e
      rw [q] at e; cases e
      obtain ⟨a, vs, rfl, h1, h2⟩ := lstOf_ok f h q
      exact ⟨.lst (.inl (.inl h1)) (Reps.dp f.sub h2), Reps.plain h2⟩
end
/-! ### from data to a new thing -/
section
variable {ct : Str → Option Addr} {X : Cx} [WC X.K] {W : WX} {G H : Hp} {L M : List Addr} {T S : Sto} {σ : L2.St} {Q : VK}
theorem sat_d {x : V} {d : D} (f : Fits X.K G H L M T S) (h : Sat ct X.K W G H L M σ (RepR X.K) Q (.ok (.v d) T S)) (r : Rep X.K G x d) : Q x H := h G H L M x (Ext.refl G H L M) f r
theorem sat_tup {p : Addr} {vs : List V} {ds : List D} (f : Fits X.K G H L M T S) (h : Sat ct X.K W G H L M σ (RepR X.K) Q (.ok (.v (.tuple ds)) T S)) (r : Reps X.K G vs ds) (hp : H p = none) : Q (.ref p) (upd H p (.tup vs)) := by
  obtain ⟨e, f'⟩ := f.new (o := .tup vs) hp (fun _ z => by cases z)
  exact h _ _ _ _ _ e f' (show Rep X.K (upd G p (.tup vs)) (.ref p) (.tuple ds) from .tup (.inl upd_same) (r.mono e.gm))
theorem sat_lst {p : Addr} {vs : List V} {ds : List D} (f : Fits X.K G H L M T S) (h : Sat ct X.K W G H L M σ (RepR X.K) Q (.ok (.v (.list ds)) T S)) (r : Reps X.K G vs ds) (hp : H p = none) : Q (.ref p) (upd H p (.lst vs)) := by
  obtain ⟨e, f'⟩ := f.new (o := .lst vs) hp (fun _ z => by cases z)
  exact h _ _ _ _ _ e f' (show Rep X.K (upd G p (.lst vs)) (.ref p) (.list ds) from .lst upd_same (r.mono e.gm))
end
/-! ### arithmetic -/
def o_int (C : Int → Int → Bool) (g : Int → Int → Int) (a b : Rv) (T S : Sto) : Res Rv := match a, b with
  | .v (.int i), .v (.int j) => if C i j = true then .ok (.v (.int (g i j))) T S else .bad
  | _, _ => .bad
section
variable {ct : Str → Option Addr} {X : Cx} [WC X.K] {W : WX}
theorem ops_int {f : Value → Value → Sem Value} {C : Int → Int → Prop} {Cb : Int → Int → Bool} {g : Int → Int → Int} (hr : OpR X f (rI C fun i j => .int (g i j))) (hc : ∀ i j, Cb i j = true → C i j) : OpS ct X W f (o_int Cb g) := by
  refine ⟨_, hr, fun x y a b T S G H L M σ Q f' ra rb h => ?_⟩
  unfold o_int at h
  split at h
  · rename_i i j
    split at h
    · rename_i hC
      cases (show Rep X.K G x (.int i) from ra)
      cases (show Rep X.K G y (.int j) from rb)
      exact ⟨i, j, rfl, rfl, hc i j hC, sat_d f' h (.int _)⟩
    · exact (show False from h).elim
  · exact (show False from h).elim
theorem rI_true {X : Cx} [WC X.K] {f : Value → Value → Sem Value} {g : Int → Int → V} (h : OpR X f (rI0 g)) : OpR X f (rI (fun _ _ => True) g) := fun pins s σ H x y v u Q I rx ry ⟨i, j, e1, e2, _, q⟩ => h pins s σ H x y v u Q I rx ry ⟨i, j, e1, e2, q⟩
abbrev yes2 : Int → Int → Bool := fun _ _ => true
abbrev o_sub := o_int yes2 (fun i j => i - j)
theorem ops_sub : OpS ct X W (binaryOp .Sub) o_sub := ops_int (rI_true op_sub) fun _ _ _ => trivial
abbrev cMul : Int → Int → Bool := fun i j => decide (i.natAbs.log2 + j.natAbs.log2 < 1000000)
abbrev o_mul := o_int cMul (fun i j => i * j)
theorem ops_mul : OpS ct X W (binaryOp .Mult) o_mul := ops_int op_mulW fun i j h => show i.natAbs.log2 + j.natAbs.log2 < 1000000 from of_decide_eq_true h
abbrev cDiv : Int → Int → Bool := fun _ j => decide (0 < j ∧ j < 1073741824)
abbrev o_div := o_int cDiv (fun i j => i / j)
theorem ops_div : OpS ct X W (binaryOp .FloorDiv) o_div := ops_int op_fdiv fun i j h => show 0 < j ∧ j < 1073741824 from of_decide_eq_true h
abbrev cMod : Int → Int → Bool := fun _ j => decide (0 < j)
abbrev o_mod := o_int cMod (fun i j => i % j)
theorem ops_mod : OpS ct X W (binaryOp .Mod) o_mod := ops_int op_mod fun i j h => of_decide_eq_true h
abbrev cPow : Int → Int → Bool := fun i j => decide (0 ≤ j ∧ j ≤ 1000000 ∧ i.natAbs < 2 ^ 64)
abbrev o_pow := o_int cPow (fun i j => i ^ j.toNat)
theorem ops_pow : OpS ct X W (binaryOp .Pow) o_pow := ops_int op_pow fun i j h => show 0 ≤ j ∧ j ≤ 1000000 ∧ i.natAbs < 2 ^ 64 from of_decide_eq_true h
/-- -a -/
def negM (m : EM Rv) : EM Rv := fun ρ T S => (m ρ T S).bind fun r T S => match r with
  | .v (.int i) => .ok (.v (.int (-i))) T S
  | _ => .bad
theorem se_neg {a : Expr} {ma : EM Rv} {pos : Pos} (h : SE ct X W a ma) : SE ct X W (.UnaryOp .USub a pos) (negM ma) := by
  obtain ⟨t, p, q⟩ := h
  refine ⟨_, pe_un un_neg p, fun ρ T S G H L M σ Q hl f sl h => ?_⟩
  refine q ρ T S G H L M σ _ hl f sl (Sat.bind h fun r T1 S1 G1 H1 L1 M1 x e1 f1 r1 h1 => ?_)
  cases r with
  | v d =>
    cases d with
    | int i =>
      cases (show Rep X.K G1 x (.int i) from r1)
      exact ⟨i, rfl, sat_d f1 h1 (.int _)⟩
    | _ => exact (show False from h1).elim
  | _ => exact (show False from h1).elim
/-! ### + -/
def o_add (a b : Rv) (T S : Sto) : Res Rv := match a, b with
  | .v (.int i), .v (.int j) => .ok (.v (.int (i + j))) T S
  | .v (.str x), .v (.str y) => if x.length + y.length ≤ 16777216 then .ok (.v (.str (x ++ y))) T S else .bad
  | .v (.tuple xs), .v (.tuple ys) => if xs.length + ys.length ≤ 16777216 then .ok (.v (.tuple (xs ++ ys))) T S else .bad
  | a, b => match lstOf a T S, lstOf b T S with
    | some xs, some ys => if xs.length + ys.length ≤ 16777216 then .ok (.v (.list (xs ++ ys))) T S else .bad
    | _, _ => .bad
theorem line_le {n : Nat} (h : n ≤ 16777216) : n ≤ sizeLine := by rw [sizeLine_eq]; exact h
theorem ops_add : OpS ct X W (binaryOp .Add) o_add := by
  refine ⟨_, op_add.or (op_add_str.or (op_catA.or op_cat)), fun x y a b T S G H L M σ Q f ra rb h => ?_⟩
  unfold o_add at h
  split at h
  · rename_i i j
    cases (show Rep X.K G x (.int i) from ra)
    cases (show Rep X.K G y (.int j) from rb)
    exact .inl ⟨i, j, rfl, rfl, sat_d f h (.int _)⟩
  · rename_i i j
    split at h
    · rename_i hz
      cases (show Rep X.K G x (.str i) from ra)
      cases (show Rep X.K G y (.str j) from rb)
      exact .inr (.inl ⟨i, j, rfl, rfl, line_le hz, sat_d f h (.str _)⟩)
    · exact (show False from h).elim
  · rename_i xs ys
    split at h
    · rename_i hz
      cases (show Rep X.K G x (.tuple xs) from ra) with
      | @tup a vs _ hs hr =>
        cases (show Rep X.K G y (.tuple ys) from rb) with
        | @tup b ws _ hs2 hr2 =>
          refine .inr (.inr (.inl ⟨a, b, vs, ws, rfl, rfl, sqT_mono f.sub hs, sqT_mono f.sub hs2, by rw [hr.length, hr2.length]; exact line_le hz, fun e => ?_, fun _ e => ?_, fun _ _ p hp => sat_tup f h (hr.append hr2) hp⟩))
          · subst e; cases hr; exact sat_d f h (.tup hs2 hr2)
          · subst e; cases hr2; rw [List.append_nil] at h; exact sat_d f h (.tup hs hr)
    · exact (show False from h).elim
  · split at h
    · rename_i xs ys e1 e2
      split at h
      · rename_i hz
        obtain ⟨p, vs, rfl, h1, r1⟩ := lstOf_ok f ra e1
        obtain ⟨q, ws, rfl, h2, r2⟩ := lstOf_ok f rb e2
        exact .inr (.inr (.inr ⟨p, q, vs, ws, rfl, rfl, h1, h2, by rw [r1.length, r2.length]; exact line_le hz, fun p hp => sat_lst f h (r1.append r2) hp⟩))
      · exact (show False from h).elim
    · exact (show False from h).elim
/-! ### comparisons -/
def deep (d e : D) : Bool := decide (min d.depth e.depth ≤ 64)
def rCmpD (K : PySem.W.Frag) [WC K] (C : D → D → Prop) (g : D → D → Bool) : R2 := fun x y H Q => ∃ d e, Dp K H x d ∧ Dp K H y e ∧ C d e ∧ Q (.bl (g d e)) H
def o_cmp (C : D → D → Bool) (g : D → D → Bool) (a b : Rv) (T S : Sto) : Res Rv := match look a T S, look b T S with
  | some d, some e => if C d e = true then .ok (.v (.bool (g d e))) T S else .bad
  | _, _ => .bad
theorem ops_cmp {f : Value → Value → Sem Value} {C : D → D → Prop} {Cb : D → D → Bool} {g : D → D → Bool} (hr : OpR X f (rCmpD X.K C g)) (hc : ∀ d e, d.plain = true → e.plain = true → Cb d e = true → C d e) : OpS ct X W f (o_cmp Cb g) := by
  refine ⟨_, hr, fun x y a b T S G H L M σ Q f' ra rb h => ?_⟩
  unfold o_cmp at h
  split at h
  · rename_i d e e1 e2
    split at h
    · rename_i hC
      obtain ⟨p1, q1⟩ := look_ok f' ra e1
      obtain ⟨p2, q2⟩ := look_ok f' rb e2
      exact ⟨d, e, p1, p2, hc d e q1 q2 hC, sat_d f' h (.bl _)⟩
    · exact (show False from h).elim
  · exact (show False from h).elim
abbrev CEq : D → D → Prop := fun d e => d.plain = true ∧ e.plain = true ∧ min d.depth e.depth ≤ 64
theorem room64 {d e : D} {u : Nat} (hu : u + 64 < cLine) (h : min d.depth e.depth ≤ 64) : u + min d.depth e.depth < cLine := by omega
theorem op_eqP (hu : X.A.units + 64 < cLine) : OpR X (compareOp .Eq) (rCmpD X.K CEq PyData.eqv) := by
  intro pins s σ H x y v u Q I rx ry h
  obtain ⟨d, e, hd, he, ⟨c1, c2, c3⟩, q⟩ := h
  obtain ⟨as, r1⟩ := Dp.reads I d x v hd rx
  obtain ⟨bs, r2⟩ := Dp.reads I e y u he ry
  exact PySem.SeqAt.eq_plain r1 r2 c1 c2 (room64 hu c3) ⟨.bl _, H, I, rfl, q⟩
theorem op_neP (hu : X.A.units + 64 < cLine) : OpR X (compareOp .NotEq) (rCmpD X.K CEq fun d e => !PyData.eqv d e) := by
  intro pins s σ H x y v u Q I rx ry h
  obtain ⟨d, e, hd, he, ⟨c1, c2, c3⟩, q⟩ := h
  obtain ⟨as, r1⟩ := Dp.reads I d x v hd rx
  obtain ⟨bs, r2⟩ := Dp.reads I e y u he ry
  exact PySem.SeqAt.ne_plain r1 r2 c1 c2 (room64 hu c3) ⟨.bl _, H, I, rfl, q⟩
abbrev o_eq := o_cmp deep PyData.eqv
abbrev o_ne := o_cmp deep fun d e => !PyData.eqv d e
theorem ops_eq (hu : X.A.units + 64 < cLine) : OpS ct X W (compareOp .Eq) o_eq := ops_cmp (op_eqP hu) fun d e h1 h2 h => ⟨h1, h2, of_decide_eq_true h⟩
theorem ops_ne (hu : X.A.units + 64 < cLine) : OpS ct X W (compareOp .NotEq) o_ne := ops_cmp (op_neP hu) fun d e h1 h2 h => ⟨h1, h2, of_decide_eq_true h⟩
def isNone : D → Bool
  | .none => true
  | _ => false
theorem not_none {d : D} (h : isNone d = false) : d ≠ .none := fun e => by subst e; cases h
def ordC (d e : D) : Bool := PySem.W.alike d e && !isNone d && deep d e
abbrev COr : D → D → Prop := fun d e => PySem.W.alike d e = true ∧ d ≠ .none ∧ min d.depth e.depth ≤ 64
theorem ordC_ok (d e : D) (h : ordC d e = true) : COr d e := by
  unfold ordC at h
  simp only [Bool.and_eq_true, Bool.not_eq_true'] at h
  exact ⟨h.1.1, not_none h.1.2, of_decide_eq_true h.2⟩
theorem op_ltP (hu : X.A.units + 64 < cLine) : OpR X (compareOp .Lt) (rCmpD X.K COr PySem.W.dataLt) := by
  intro pins s σ H x y v u Q I rx ry h
  obtain ⟨d, e, hd, he, ⟨c1, c2, c3⟩, q⟩ := h
  obtain ⟨as, r1⟩ := Dp.reads I d x v hd rx
  obtain ⟨bs, r2⟩ := Dp.reads I e y u he ry
  exact PySem.W.lt_data r1 r2 c1 c2 (room64 hu c3) ⟨.bl _, H, I, rfl, q⟩
theorem op_gtP (hu : X.A.units + 64 < cLine) : OpR X (compareOp .Gt) (rCmpD X.K COr fun d e => PySem.W.dataLt e d) := by
  intro pins s σ H x y v u Q I rx ry h
  obtain ⟨d, e, hd, he, ⟨c1, c2, c3⟩, q⟩ := h
  obtain ⟨as, r1⟩ := Dp.reads I d x v hd rx
  obtain ⟨bs, r2⟩ := Dp.reads I e y u he ry
  exact PySem.W.gt_data r1 r2 c1 c2 (room64 hu c3) ⟨.bl _, H, I, rfl, q⟩
theorem op_leP (hu : X.A.units + 64 < cLine) : OpR X (compareOp .LtE) (rCmpD X.K COr fun d e => !PySem.W.dataLt e d) := by
  intro pins s σ H x y v u Q I rx ry h
  obtain ⟨d, e, hd, he, ⟨c1, c2, c3⟩, q⟩ := h
  obtain ⟨as, r1⟩ := Dp.reads I d x v hd rx
  obtain ⟨bs, r2⟩ := Dp.reads I e y u he ry
  exact PySem.W.le_data r1 r2 c1 c2 (room64 hu c3) ⟨.bl _, H, I, rfl, q⟩
theorem op_geP (hu : X.A.units + 64 < cLine) : OpR X (compareOp .GtE) (rCmpD X.K COr fun d e => !PySem.W.dataLt d e) := by
  intro pins s σ H x y v u Q I rx ry h
  obtain ⟨d, e, hd, he, ⟨c1, c2, c3⟩, q⟩ := h
  obtain ⟨as, r1⟩ := Dp.reads I d x v hd rx
  obtain ⟨bs, r2⟩ := Dp.reads I e y u he ry
  exact PySem.W.ge_data r1 r2 c1 c2 (room64 hu c3) ⟨.bl _, H, I, rfl, q⟩
abbrev o_lt := o_cmp ordC PySem.W.dataLt
abbrev o_gt := o_cmp ordC fun d e => PySem.W.dataLt e d
abbrev o_le := o_cmp ordC fun d e => !PySem.W.dataLt e d
abbrev o_ge := o_cmp ordC fun d e => !PySem.W.dataLt d e
theorem ops_lt (hu : X.A.units + 64 < cLine) : OpS ct X W (compareOp .Lt) o_lt := ops_cmp (op_ltP hu) fun d e _ _ h => ordC_ok d e h
theorem ops_gt (hu : X.A.units + 64 < cLine) : OpS ct X W (compareOp .Gt) o_gt := ops_cmp (op_gtP hu) fun d e _ _ h => ordC_ok d e h
theorem ops_le (hu : X.A.units + 64 < cLine) : OpS ct X W (compareOp .LtE) o_le := ops_cmp (op_leP hu) fun d e _ _ h => ordC_ok d e h
theorem ops_ge (hu : X.A.units + 64 < cLine) : OpS ct X W (compareOp .GtE) o_ge := ops_cmp (op_geP hu) fun d e _ _ h => ordC_ok d e h
/-- is None -/
def isN (neg : Bool) (a b : Rv) (T S : Sto) : Res Rv := match b with
  | .v .none => (match a with
    | .v .none => .ok (.v (.bool !neg)) T S
    | _ => .ok (.v (.bool neg)) T S)
  | _ => .bad
/-! ### in -/
def o_in (neg : Bool) (a b : Rv) (T S : Sto) : Res Rv := match look b T S with
  | some (.str z) => (match look a T S with
    | some (.str x) => (match x.cps.toList with
      | [c] => .ok (.v (.bool (if neg then !decide (c ∈ z.cps.toList) else decide (c ∈ z.cps.toList)))) T S
      | _ => .bad)
    | _ => .bad)
  | some (.list xs) => (match look a T S with
    | some d => if min (PyData.depthAll xs) d.depth ≤ 60 then .ok (.v (.bool (if neg then !xs.any (fun y => PyData.eqv y d) else xs.any fun y => PyData.eqv y d))) T S else .bad
    | none => .bad)
  | some (.tuple xs) => (match look a T S with
    | some d => if min (PyData.depthAll xs) d.depth ≤ 60 then .ok (.v (.bool (if neg then !xs.any (fun y => PyData.eqv y d) else xs.any fun y => PyData.eqv y d))) T S else .bad
    | none => .bad)
  | _ => .bad
end
end RB
end
/-! text RBuild -/
section
set_option Elab.async false
set_option linter.all false
set_option maxRecDepth 100000
set_option maxHeartbeats 4000000
/-! RBuild: displays, subscripts, slices, built-ins. -/
namespace RB
open PySem PySem.Spec PyProof.Rows L2
/-! ### a list of one's own is handed on: it changes no more -/
def toD (r : Rv) (T : Sto) : Option (D × Sto) := match r with
  | .v d => some (d, T)
  | .own n => (match T[n]? with
    | some (.lst xs) => some (.list xs, T.set n (.frz xs))
    | some (.frz xs) => some (.list xs, T)
    | _ => none)
  | _ => none
def toDs : List Rv → Sto → Option (List D × Sto)
  | [], T => some ([], T)
  | r :: rs, T => match toD r T with
    | some (d, T1) => (match toDs rs T1 with
      | some (ds, T2) => some (d :: ds, T2)
      | none => none)
    | none => none
section
variable {K : PySem.W.Frag} [WC K] {G H : Hp} {L M : List Addr} {T S : Sto}
theorem Fits.freeze {n : Nat} {a : Addr} {vs : List V} {ds : List D} (f : Fits K G H L M T S) (ha : M[n]? = some a) (hh : H a = some (.lst vs)) (hg : G a = none) (hr : Reps K G vs ds) :
    Ext G H L M (upd G a (.lst vs)) H L M ∧ Fits K (upd G a (.lst vs)) H L M (T.set n (.frz ds)) S := by
  have am : a ∈ M := List.mem_of_getElem? ha
  have g1 : Same G (upd G a (.lst vs)) := fun b u h => by rw [upd_ne (ne_of_none h hg)]; exact h
  refine ⟨⟨g1, List.prefix_refl L, List.prefix_refl M, fun _ _ h _ _ _ => h, fun _ u h nt => ⟨u, h, nt⟩, fun b u h => ?_, fun _ h => .inl h, fun _ h => .inl h⟩,
    ⟨fun b u h => ?_, f.nd, f.lenL, by rw [List.length_set]; exact f.lenM, fun k b q e1 e2 => ?_, fun k b q e1 e2 => ?_, tbs_g f.tbs (fun _ z => by cases z)⟩⟩
  · by_cases e : b = a
    · exact .inr (.inr (.inl (by rw [e]; exact am)))
    · rw [upd_ne e] at h; exact .inl h
  · by_cases e : b = a
    · subst e; rw [upd_same] at h; cases h; exact hh
    · rw [upd_ne e] at h; exact f.sub b u h
  · refine ROb.mono (List.prefix_refl _) g1 (fun z => ?_) (fun z hz => hz) (f.obL k b q e1 e2)
    rw [upd_ne (show b ≠ a from fun e => f.apart (List.mem_of_getElem? e1) (by rw [e]; exact am))]; exact z
  · by_cases e : n = k
    · subst e
      rw [ha] at e1; cases e1
      rw [List.getElem?_set_self (by rw [← f.lenM]; exact lt_of_get ha)] at e2
      cases e2
      exact ⟨vs, hh, upd_same, hr.mono g1⟩
    · rw [List.getElem?_set_ne e] at e2
      refine ROb.mono (List.prefix_refl _) g1 (fun z => ?_) (fun z hz => hz) (f.obM k b q e1 e2)
      rw [upd_ne (show b ≠ a from fun w => e (nd_get f.ndM ha (by rw [← w]; exact e1)))]; exact z
theorem Fits.freezeU {n : Nat} {a : Addr} {u : HO} {o : Ob} (f : Fits K G H L M T S) (ha : M[n]? = some a) (hh : H a = some u) (hg : G a = none) (hu : ∀ ps, u ≠ .tbl ps) (ho : Same G (upd G a u) → ROb K L M (upd G a u) H a o) :
    Ext G H L M (upd G a u) H L M ∧ Fits K (upd G a u) H L M (T.set n o) S := by
  have am : a ∈ M := List.mem_of_getElem? ha
  have g1 : Same G (upd G a u) := fun b u h => by rw [upd_ne (ne_of_none h hg)]; exact h
  refine ⟨⟨g1, List.prefix_refl L, List.prefix_refl M, fun _ _ h _ _ _ => h, fun _ u h nt => ⟨u, h, nt⟩, fun b u h => ?_, fun _ h => .inl h, fun _ h => .inl h⟩,
    ⟨fun b u h => ?_, f.nd, f.lenL, by rw [List.length_set]; exact f.lenM, fun k b q e1 e2 => ?_, fun k b q e1 e2 => ?_, tbs_g f.tbs hu⟩⟩
  · by_cases e : b = a
    · exact .inr (.inr (.inl (by rw [e]; exact am)))
    · rw [upd_ne e] at h; exact .inl h
  · by_cases e : b = a
    · subst e; rw [upd_same] at h; cases h; exact hh
    · rw [upd_ne e] at h; exact f.sub b u h
  · refine ROb.mono (List.prefix_refl _) g1 (fun z => ?_) (fun z hz => hz) (f.obL k b q e1 e2)
    rw [upd_ne (show b ≠ a from fun e => f.apart (List.mem_of_getElem? e1) (by rw [e]; exact am))]; exact z
  · by_cases e : n = k
    · subst e
      rw [ha] at e1; cases e1
      rw [List.getElem?_set_self (by rw [← f.lenM]; exact lt_of_get ha)] at e2
      cases e2
      exact ho g1
    · rw [List.getElem?_set_ne e] at e2
      refine ROb.mono (List.prefix_refl _) g1 (fun z => ?_) (fun z hz => hz) (f.obM k b q e1 e2)
      rw [upd_ne (show b ≠ a from fun w => e (nd_get f.ndM ha (by rw [← w]; exact e1)))]; exact z
theorem Fits.freezeD {n : Nat} {a : Addr} {ws : List (Key × V)} {kvs : List (Key × D)} (f : Fits K G H L M T S) (ha : M[n]? = some a) (hh : H a = some (.dK ws)) (hg : G a = none) (hk : ws.map (·.1) = kvs.map (·.1)) (hr : Reps K G (ws.map (·.2)) (kvs.map (·.2))) :
    Ext G H L M (upd G a (.dK ws)) H L M ∧ Fits K (upd G a (.dK ws)) H L M (T.set n (.frd kvs)) S :=
  f.freezeU ha hh hg (fun _ z => by cases z) fun g => ⟨ws, hh, upd_same, hk, hr.mono g⟩
theorem Fits.freezeT {n : Nat} {a : Addr} {ws : List (List Key × V)} {kvs : List (List Key × D)} (f : Fits K G H L M T S) (ha : M[n]? = some a) (hh : H a = some (.dT ws)) (hg : G a = none) (hk : ws.map (·.1) = kvs.map (·.1)) (hr : Reps K G (ws.map (·.2)) (kvs.map (·.2))) :
    Ext G H L M (upd G a (.dT ws)) H L M ∧ Fits K (upd G a (.dT ws)) H L M (T.set n (.fdt kvs)) S :=
  f.freezeU ha hh hg (fun _ z => by cases z) fun g => ⟨ws, hh, upd_same, hk, hr.mono g⟩
theorem toD_ok {x : V} {r : Rv} {d : D} {T' : Sto} (f : Fits K G H L M T S) (h : RepR K G L M x r) (e : toD r T = some (d, T')) :
    ∃ G', Ext G H L M G' H L M ∧ Fits K G' H L M T' S ∧ Rep K G' x d := by
  cases r with
  | v d' => cases e; exact ⟨G, Ext.refl _ _ _ _, f, h⟩
  | own n =>
    obtain ⟨a, ha, rfl⟩ := h
    unfold toD at e
    simp only at e
    split at e
    · rename_i xs q
      cases e
      obtain ⟨vs, h1, h2, h3⟩ := f.obM n a _ ha q
      obtain ⟨e', f'⟩ := f.freeze ha h1 h2 h3
      exact ⟨_, e', f', .lst upd_same (h3.mono e'.gm)⟩
    · rename_i xs q
      cases e
      obtain ⟨vs, h1, h2, h3⟩ := f.obM n a _ ha q
      exact ⟨G, Ext.refl _ _ _ _, f, .lst h2 h3⟩
    · cases e
  | loc n => cases e
  | scr ns => cases e
  | frd kvs => cases e
  | fdt kvs => cases e
  | frk kvs => cases e
  | prd kvs d => cases e
  | glo nm => cases e
theorem toDs_ok : ∀ {xs : List V} {rs : List Rv} {ds : List D} {G : Hp} {T T' : Sto}, Fits K G H L M T S → RepRs K G L M xs rs → toDs rs T = some (ds, T') →
    ∃ G', Ext G H L M G' H L M ∧ Fits K G' H L M T' S ∧ Reps K G' xs ds
  | _, _, _, G, T, _, f, .nil, e => by cases e; exact ⟨G, Ext.refl _ _ _ _, f, .nil⟩
  | _, _, _, G, T, T', f, .cons (r := r) (rs := rs) h hs, e => by
    unfold toDs at e
    split at e
    · rename_i d T1 e1
      split at e
      · rename_i ds T2 e2
        cases e
        obtain ⟨G1, x1, f1, r1⟩ := toD_ok f h e1
        obtain ⟨G2, x2, f2, r2⟩ := toDs_ok f1 (hs.mono x1) e2
        exact ⟨G2, x1.trans x2, f2, .cons (r1.mono x2.gm) r2⟩
      · cases e
    · cases e
end
/-! ### displays -/
def tupM (ms : EM (List Rv)) : EM Rv := fun ρ T S => (ms ρ T S).bind fun rs T S => match toDs rs T with
  | some (ds, T') => if ds.length ≤ 16777216 then .ok (.v (.tuple ds)) T' S else .bad
  | none => .bad
def lstM (ms : EM (List Rv)) : EM Rv := fun ρ T S => (ms ρ T S).bind fun rs T S => match toDs rs T with
  | some (ds, T') => if ds.length ≤ 16777216 then .ok (.v (.list ds)) T' S else .bad
  | none => .bad
/-- a list that may change -/
def ownM (ms : EM (List Rv)) : EM Rv := fun ρ T S => (ms ρ T S).bind fun rs T S => match toDs rs T with
  | some (ds, T') => if ds.length ≤ 16777216 then .ok (.own T'.length) (T' ++ [.lst ds]) S else .bad
  | none => .bad
section
variable {ct : Str → Option Addr} {X : Cx} [WC X.K] {W : WX} {pos : Pos} {es : List Expr} {ms : EM (List Rv)}
theorem se_tup {j} (h : SA ct X W es ms) : SE ct X W (.Tuple es j pos) (tupM ms) := by
  obtain ⟨t, p, q⟩ := h
  refine ⟨tTup t, pe_tup p, fun ρ T S G H L M σ Q hl f sl h => ?_⟩
  refine q ρ T S G H L M σ _ hl f sl (Sat.bind h fun rs T1 S1 G1 H1 L1 M1 xs e1 f1 r1 h1 => ?_)
  split at h1
  · rename_i ds T' e
    split at h1
    · rename_i hz
      obtain ⟨G2, e2, f2, r2⟩ := toDs_ok f1 r1 e
      exact ⟨by rw [r2.length]; exact line_le hz, fun p hp => sat_tup f2 (Sat.pre e2 h1) r2 hp⟩
    · exact (show False from h1).elim
  · exact (show False from h1).elim
theorem se_lst (h : SA ct X W es ms) : SE ct X W (.List es pos) (lstM ms) := by
  obtain ⟨t, p, q⟩ := h
  refine ⟨tLst t, pe_lst p, fun ρ T S G H L M σ Q hl f sl h => ?_⟩
  refine q ρ T S G H L M σ _ hl f sl (Sat.bind h fun rs T1 S1 G1 H1 L1 M1 xs e1 f1 r1 h1 => ?_)
  split at h1
  · rename_i ds T' e
    split at h1
    · rename_i hz
      obtain ⟨G2, e2, f2, r2⟩ := toDs_ok f1 r1 e
      exact ⟨by rw [r2.length]; exact line_le hz, fun p hp => sat_lst f2 (Sat.pre e2 h1) r2 hp⟩
    · exact (show False from h1).elim
  · exact (show False from h1).elim
theorem sat_own {G H : Hp} {L M : List Addr} {T S : Sto} {σ : L2.St} {Q : VK} {p : Addr} {vs : List V} {ds : List D} (f : Fits X.K G H L M T S) (h : Sat ct X.K W G H L M σ (RepR X.K) Q (.ok (.own T.length) (T ++ [.lst ds]) S)) (r : Reps X.K G vs ds) (hp : H p = none) : Q (.ref p) (upd H p (.lst vs)) := by
  obtain ⟨e, f'⟩ := f.newM (u := .lst vs) (o := .lst ds) hp ⟨vs, upd_same, f.sub.free hp, r⟩ (fun _ z => by cases z)
  refine h _ _ _ _ _ e f' ⟨p, ?_, rfl⟩
  rw [← f.lenM, List.getElem?_append_right (Nat.le_refl _), Nat.sub_self]
  rfl
theorem se_own (h : SA ct X W es ms) : SE ct X W (.List es pos) (ownM ms) := by
  obtain ⟨t, p, q⟩ := h
  refine ⟨tLst t, pe_lst p, fun ρ T S G H L M σ Q hl f sl h => ?_⟩
  refine q ρ T S G H L M σ _ hl f sl (Sat.bind h fun rs T1 S1 G1 H1 L1 M1 xs e1 f1 r1 h1 => ?_)
  split at h1
  · rename_i ds T' e
    split at h1
    · rename_i hz
      obtain ⟨G2, e2, f2, r2⟩ := toDs_ok f1 r1 e
      exact ⟨by rw [r2.length]; exact line_le hz, fun p hp => sat_own f2 (Sat.pre e2 h1) r2 hp⟩
    · exact (show False from h1).elim
  · exact (show False from h1).elim
end
/-! ### items -/
def o_ix (a b : Rv) (T S : Sto) : Res Rv := match b with
  | .v (.int i) => (match look a T S with
    | some (.list xs) => (match atI xs i with | some d => .ok (.v d) T S | none => .bad)
    | some (.tuple xs) => (match atI xs i with | some d => .ok (.v d) T S | none => .bad)
    | some (.str x) => (match atI x.cps.toList i with | some c => if x.length ≤ 16777216 then .ok (.v (.str ⟨#[c]⟩)) T S else .bad | none => .bad)
    | _ => .bad)
  | _ => .bad
theorem reps_at {K : PySem.W.Frag} [WC K] {G : Hp} {vs : List V} {ds : List D} {i : Int} {d : D} (r : Reps K G vs ds) (h : atI ds i = some d) : ∃ x, atI vs i = some x ∧ Rep K G x d := by
  unfold atI at h ⊢
  rw [r.length]
  cases e : ixN ds.length i with
  | none => rw [e] at h; cases h
  | some j => rw [e] at h; exact r.get h
section
variable {ct : Str → Option Addr} {X : Cx} [WC X.K] {W : WX} {pos : Pos}
/-- the list behind a value: its items as values -/
theorem look_list {G H : Hp} {L M : List Addr} {T S : Sto} {x : V} {r : Rv} {ds : List D} (f : Fits X.K G H L M T S) (h : RepR X.K G L M x r) (e : look r T S = some (.list ds)) :
    ∃ a vs, x = .ref a ∧ SqL X.K H a vs ∧ Reps X.K G vs ds := by
  cases r with
  | v d =>
    cases e
    cases (show Rep X.K G x (.list ds) from h) with
    | lst hg hr => exact ⟨_, _, rfl, .inl (.inl (f.sub _ _ hg)), hr⟩
  | scr ns =>
    cases e
    obtain ⟨a, rfl, hs⟩ := h
    refine ⟨a, _, rfl, f.sub.seq hs, ?_⟩
    clear hs
    induction ns with
    | nil => exact .nil
    | cons n ns ih => exact .cons (.int n) ih
  | frd kvs => cases e
  | fdt kvs => cases e
  | frk kvs => cases e
  | prd kvs d => cases e
  | glo nm => cases e
  | own n =>
    cases q : lstOf (.own n) T S with
    | none => have e : (lstOf _ T S).map PyData.list = _ := e; rw [q] at e; cases e
    | some xs =>
      have e : (lstOf _ T S).map PyData.list = _ := e
      rw [q] at e; cases e
      obtain ⟨a, vs, rfl, h1, h2⟩ := lstOf_ok f h q
      exact ⟨a, vs, rfl, .inl (.inl h1), h2⟩
  | loc n =>
    cases q : lstOf (.loc n) T S with
    | none => have e : (lstOf _ T S).map PyData.list = _ := e; rw [q] at e; cases e
    | some xs =>
      have e : (lstOf _ T S).map PyData.list = _ := e
      rw [q] at e; cases e
      obtain ⟨a, vs, rfl, h1, h2⟩ := lstOf_ok f h q
      exact ⟨a, vs, rfl, .inl (.inl h1), h2⟩
theorem look_v {T S : Sto} {r : Rv} {d : D} (hn : ∀ ds, d ≠ .list ds) (e : look r T S = some d) : r = .v d := by
  cases r with
  | v d' => cases e; rfl
  | scr ns => cases e; exact (hn _ rfl).elim
  | frd kvs => cases e
  | fdt kvs => cases e
  | frk kvs => cases e
  | prd kvs d => cases e
  | glo nm => cases e
  | own n => have e : (lstOf (.own n) T S).map PyData.list = _ := e; cases q : lstOf (.own n) T S <;> rw [q] at e <;> cases e; exact (hn _ rfl).elim
  | loc n => have e : (lstOf (.loc n) T S).map PyData.list = _ := e; cases q : lstOf (.loc n) T S <;> rw [q] at e <;> cases e; exact (hn _ rfl).elim
theorem look_tuple {G H : Hp} {L M : List Addr} {T S : Sto} {x : V} {r : Rv} {ds : List D} (f : Fits X.K G H L M T S) (h : RepR X.K G L M x r) (e : look r T S = some (.tuple ds)) :
    r = .v (.tuple ds) ∧ ∃ a vs, x = .ref a ∧ TupAt X.K G a vs ∧ SqT X.K H a vs ∧ Reps X.K G vs ds := by
  have e' := look_v (fun _ z => by cases z) e
  subst e'
  cases (show Rep X.K G x (.tuple ds) from h) with
  | tup hg hr => exact ⟨rfl, _, _, rfl, hg, sqT_mono f.sub hg, hr⟩
theorem look_str {G H : Hp} {L M : List Addr} {T S : Sto} {x : V} {r : Rv} {z : Str} (f : Fits X.K G H L M T S) (h : RepR X.K G L M x r) (e : look r T S = some (.str z)) : x = .str z := by
  have e' := look_v (fun _ z => by cases z) e
  subst e'
  cases (show Rep X.K G x (.str z) from h)
  rfl
theorem ixs : IxS ct X W o_ix := by
  refine ⟨_, ix_seq, fun x y a b T S G H L M σ Q f ra rb h => ?_⟩
  unfold o_ix at h
  split at h
  · rename_i i
    cases (show Rep X.K G y (.int i) from rb)
    split at h
    · rename_i xs e
      split at h
      · rename_i d hd
        obtain ⟨p, vs, rfl, hs, hr⟩ := look_list f ra e
        obtain ⟨v, hv, rv⟩ := reps_at hr hd
        exact .inl ⟨p, vs, i, v, rfl, rfl, hs, hv, sat_d f h rv⟩
      · exact (show False from h).elim
    · rename_i xs e
      split at h
      · rename_i d hd
        obtain ⟨_, p, vs, rfl, _, hs, hr⟩ := look_tuple f ra e
        obtain ⟨v, hv, rv⟩ := reps_at hr hd
        exact .inr (.inl ⟨p, vs, i, v, rfl, rfl, hs, hv, sat_d f h rv⟩)
      · exact (show False from h).elim
    · rename_i z e
      split at h
      · rename_i c hc
        split at h
        · rename_i hz
          rw [look_str f ra e]
          exact .inr (.inr ⟨z, i, c, rfl, rfl, line_le hz, hc, sat_d f h (.str _)⟩)
        · exact (show False from h).elim
      · exact (show False from h).elim
    · exact (show False from h).elim
  · exact (show False from h).elim
end
/-! ### slices -/
def cutL {α : Type} (xs : List α) (lo hi : Option Int) : List α := (xs.drop (HT.sIx xs.length 0 lo)).take (HT.sIx xs.length xs.length hi - HT.sIx xs.length 0 lo)
theorem reps_cut {K : PySem.W.Frag} [WC K] {G : Hp} {vs : List V} {ds : List D} (r : Reps K G vs ds) (lo hi : Option Int) : Reps K G (cutV vs lo hi) (cutL ds lo hi) := by
  unfold cutV cutL
  rw [r.length]
  exact (r.drop _).take _
def partM (m : Option (EM Rv)) : EM (Option Int) := fun ρ T S => match m with
  | none => .ok none T S
  | some m => (m ρ T S).bind fun r T S => match r with
    | .v (.int i) => .ok (some i) T S
    | _ => .bad
def cutR (a : Rv) (lo hi : Option Int) (T S : Sto) : Res Rv := match look a T S with
  | some (.list xs) => .ok (.v (.list (cutL xs lo hi))) T S
  | some (.tuple xs) => .ok (.v (.tuple (cutL xs lo hi))) T S
  | some (.str x) => if x.length ≤ 16777216 then .ok (.v (.str (cutS x lo hi))) T S else .bad
  | _ => .bad
def cutM (m : EM Rv) (lo hi : Option (EM Rv)) : EM Rv := fun ρ T S => (m ρ T S).bind fun a T S => (partM lo ρ T S).bind fun l T S => (partM hi ρ T S).bind fun u T S => cutR a l u T S
abbrev relO : Hp → List Addr → List Addr → Option Int → Option Int → Prop := fun _ _ _ b b' => b = b'
section
variable {ct : Str → Option Addr} {X : Cx} [WC X.K] {W : WX} {pos : Pos}
def SO (ct : Str → Option Addr) (X : Cx) [WC X.K] (W : WX) (e : Option Expr) (m : Option (EM Rv)) : Prop :=
  ∃ t, PO X e t ∧ ∀ (ρ : Vn) (T S : Sto) (G H : Hp) (L M : List Addr) (σ : L2.St) (Q : Option Int → Hp → Prop), ρ.length = σ.length → Fits X.K G H L M T S → Slots X.K G L M ρ σ → Sat ct X.K W G H L M σ relO Q (partM m ρ T S) → t σ H Q
theorem so_none : SO ct X W none none := ⟨tNoPart, po_none, fun ρ T S G H L M σ Q hl f sl h => h G H L M none (Ext.refl _ _ _ _) f rfl⟩
theorem so_some {e : Expr} {m : EM Rv} (h : SE ct X W e m) : SO ct X W (some e) (some m) := by
  obtain ⟨t, p, q⟩ := h
  refine ⟨tPart t, po_some p, fun ρ T S G H L M σ Q hl f sl h => ?_⟩
  refine q ρ T S G H L M σ _ hl f sl (Sat.bind h fun r T1 S1 G1 H1 L1 M1 x e1 f1 r1 h1 => ?_)
  cases r with
  | v d =>
    cases d with
    | int i =>
      cases (show Rep X.K G1 x (.int i) from r1)
      exact ⟨i, rfl, h1 G1 H1 L1 M1 _ (Ext.refl _ _ _ _) f1 rfl⟩
    | _ => exact (show False from h1).elim
  | _ => exact (show False from h1).elim
theorem cutL_all {α : Type} {xs : List α} {lo hi : Option Int} (h : HT.sIx xs.length 0 lo = 0 ∧ HT.sIx xs.length xs.length hi = xs.length) : cutL xs lo hi = xs := by
  unfold cutL
  rw [h.1, h.2]
  simp
theorem se_cut {e : Expr} {lo hi : Option Expr} {p2 : Pos} {m : EM Rv} {ml mh : Option (EM Rv)} (he : SE ct X W e m) (hl : SO ct X W lo ml) (hh : SO ct X W hi mh) : SE ct X W (.Subscript e (.Slice lo hi none p2) pos) (cutM m ml mh) := by
  obtain ⟨t, p, q⟩ := he
  obtain ⟨tl, pl, ql⟩ := hl
  obtain ⟨th, ph, qh⟩ := hh
  refine ⟨_, pe_slice (sl_list.or (sl_tupA.or sl_str)) p pl ph, fun ρ T S G H L M σ Q hl f sl h => ?_⟩
  refine q ρ T S G H L M σ _ hl f sl (Sat.bind h fun r T1 S1 G1 H1 L1 M1 x e1 f1 r1 h1 => ?_)
  refine ql ρ T1 S1 G1 H1 L1 M1 σ _ hl f1 (sl.mono e1) (Sat.bind h1 fun l T2 S2 G2 H2 L2 M2 y e2 f2 r2 h2 => ?_)
  refine qh ρ T2 S2 G2 H2 L2 M2 σ _ hl f2 (sl.mono (e1.trans e2)) (Sat.bind h2 fun u T3 S3 G3 H3 L3 M3 z e3 f3 r3 h3 => ?_)
  cases r2; cases r3
  have r1' := r1.mono (e2.trans e3)
  unfold cutR at h3
  split at h3
  · rename_i xs e
    obtain ⟨p, vs, rfl, hs, hr⟩ := look_list f3 r1' e
    exact .inl ⟨p, vs, rfl, hs, fun q hq => sat_lst f3 h3 (reps_cut hr _ _) hq⟩
  · rename_i xs e
    obtain ⟨_, p, vs, rfl, hg, hs, hr⟩ := look_tuple f3 r1' e
    refine .inr (.inl ⟨p, vs, rfl, hs, fun hw => ?_, fun _ q hq => sat_tup f3 h3 (reps_cut hr _ _) hq⟩)
    rw [hr.length] at hw
    rw [cutL_all hw] at h3
    exact sat_d f3 h3 (.tup hg hr)
  · rename_i zz e
    split at h3
    · rename_i hz
      rw [look_str f3 r1' e]
      exact .inr (.inr ⟨zz, rfl, line_le hz, sat_d f3 h3 (.str _)⟩)
    · exact (show False from h3).elim
  · exact (show False from h3).elim
/-! ### built-ins -/
def callM (o : List Rv → Sto → Sto → Res Rv) (ms : EM (List Rv)) : EM Rv := fun ρ T S => (ms ρ T S).bind fun rs T S => o rs T S
theorem callM_ok {t : TA} {r : List V → Hp → VK → Prop} {o : List Rv → Sto → Sto → Res Rv} {ms : EM (List Rv)}
    (ha : ∀ (ρ : Vn) (T S : Sto) (G H : Hp) (L M : List Addr) (σ : L2.St) (Q : List V → Hp → Prop), ρ.length = σ.length → Fits X.K G H L M T S → Slots X.K G L M ρ σ → Sat ct X.K W G H L M σ (RepRs X.K) Q (ms ρ T S) → t σ H Q)
    (ho : ∀ (xs : List V) (rs : List Rv) (T S : Sto) (G H : Hp) (L M : List Addr) (σ : L2.St) (Q : VK), Fits X.K G H L M T S → RepRs X.K G L M xs rs → Sat ct X.K W G H L M σ (RepR X.K) Q (o rs T S) → r xs H Q)
    (ρ : Vn) (T S : Sto) (G H : Hp) (L M : List Addr) (σ : L2.St) (Q : VK) (hl : ρ.length = σ.length) (f : Fits X.K G H L M T S) (sl : Slots X.K G L M ρ σ) (h : Sat ct X.K W G H L M σ (RepR X.K) Q (callM o ms ρ T S)) : tCB r t σ H Q :=
  ha ρ T S G H L M σ _ hl f sl (Sat.bind h fun rs T1 S1 G1 H1 L1 M1 xs e1 f1 r1 h1 => ho xs rs T1 S1 G1 H1 L1 M1 σ Q f1 r1 h1)
variable {x : Str} {p : Pos} {e : Expr} {es : List Expr} {ms : EM (List Rv)} {o : List Rv → Sto → Sto → Res Rv}
theorem se_callB {id : String} (hc : CallS ct X W (.builtin id) o) (hg : Gl X x) (hm : X.mg x = none) (hv : bootBuiltins x = some (.builtin id)) (ha : SA ct X W (e :: es) ms) (hn : x ≠ "__name__") (hdb : (x == ("__debug__" : Str)) = false)
    (he : starEach (e :: es) X.env = (false, eval e X.env) :: starEach es X.env) (hpl : (backTo pos (starEach es X.env)).any (·.1) = false) : SE ct X W (.Call (.Name x p) (e :: es) [] pos) (callM o ms) := by
  obtain ⟨t, pa, qa⟩ := ha
  obtain ⟨r, pr, qr⟩ := hc
  exact ⟨tCB r t, pe_callB pr hg hm hv pa hn hdb he hpl, callM_ok qa qr⟩
theorem se_callTy {id : String} (hc : CallS ct X W (.type id) o) (hg : Gl X x) (hm : X.mg x = none) (hv : bootBuiltins x = some (.type id)) (ha : SA ct X W (e :: es) ms) (hn : x ≠ "__name__") (hdb : (x == ("__debug__" : Str)) = false)
    (he : starEach (e :: es) X.env = (false, eval e X.env) :: starEach es X.env) (hpl : (backTo pos (starEach es X.env)).any (·.1) = false) : SE ct X W (.Call (.Name x p) (e :: es) [] pos) (callM o ms) := by
  obtain ⟨t, pa, qa⟩ := ha
  obtain ⟨r, pr, qr⟩ := hc
  exact ⟨tCB r t, pe_callTy pr hg hm hv pa hn hdb he hpl, callM_ok qa qr⟩
def c_len (rs : List Rv) (T S : Sto) : Res Rv := match rs with
  | [r] => (match look r T S with
    | some (.list xs) => .ok (.v (.int xs.length)) T S
    | some (.tuple xs) => .ok (.v (.int xs.length)) T S
    | some (.str x) => if x.length ≤ 16777216 then .ok (.v (.int x.length)) T S else .bad
    | _ => .bad)
  | _ => .bad
theorem rs1 {K : PySem.W.Frag} [WC K] {G : Hp} {L M : List Addr} {xs : List V} {r : Rv} (h : RepRs K G L M xs [r]) : ∃ x, xs = [x] ∧ RepR K G L M x r := by
  cases h with
  | cons h t => cases t; exact ⟨_, rfl, h⟩
theorem cs_len : CallS ct X W (.builtin "len") c_len := by
  refine ⟨_, call_len, fun xs rs T S G H L M σ Q f rr h => ?_⟩
  unfold c_len at h
  split at h
  · obtain ⟨x, rfl, r1⟩ := rs1 rr
    split at h
    · rename_i ds e
      obtain ⟨a, vs, rfl, hs, hr⟩ := look_list f r1 e
      exact ⟨.ref a, vs.length, rfl, .inl ⟨vs, hs, rfl⟩, by rw [hr.length]; exact sat_d f h (.int _)⟩
    · rename_i ds e
      obtain ⟨_, a, vs, rfl, _, hs, hr⟩ := look_tuple f r1 e
      exact ⟨.ref a, vs.length, rfl, .inr ⟨vs, hs, rfl⟩, by rw [hr.length]; exact sat_d f h (.int _)⟩
    · rename_i z e
      split at h
      · rename_i hz
        rw [look_str f r1 e]
        exact ⟨.str z, z.length, rfl, ⟨line_le hz, rfl⟩, sat_d f h (.int _)⟩
      · exact (show False from h).elim
    · exact (show False from h).elim
  · exact (show False from h).elim
def c_tuple (rs : List Rv) (T S : Sto) : Res Rv := match rs with
  | [r] => (match look r T S with
    | some (.list xs) => .ok (.v (.tuple xs)) T S
    | some (.tuple xs) => .ok (.v (.tuple xs)) T S
    | _ => .bad)
  | _ => .bad
def c_list (own : Bool) (rs : List Rv) (T S : Sto) : Res Rv := match rs with
  | [r] => (match look r T S with
    | some (.list xs) => if own then .ok (.own T.length) (T ++ [.lst xs]) S else .ok (.v (.list xs)) T S
    | some (.tuple xs) => if own then .ok (.own T.length) (T ++ [.lst xs]) S else .ok (.v (.list xs)) T S
    | _ => .bad)
  | _ => .bad
theorem cs_list (own : Bool) : CallS ct X W (.type "list") (c_list own) := by
  refine ⟨_, call_list_of, fun xs rs T S G H L M σ Q f rr h => ?_⟩
  unfold c_list at h
  split at h
  · obtain ⟨x, rfl, r1⟩ := rs1 rr
    split at h
    · rename_i ds e
      obtain ⟨a, vs, rfl, hs, hr⟩ := look_list f r1 e
      refine ⟨a, vs, rfl, .inl hs, fun l hl => ?_⟩
      cases own with
      | true => exact sat_own f h hr hl
      | false => exact sat_lst f h hr hl
    · rename_i ds e
      obtain ⟨_, a, vs, rfl, hg, hs, hr⟩ := look_tuple f r1 e
      refine ⟨a, vs, rfl, .inr hs, fun l hl => ?_⟩
      cases own with
      | true => exact sat_own f h hr hl
      | false => exact sat_lst f h hr hl
    · exact (show False from h).elim
  · exact (show False from h).elim
def c_int (rs : List Rv) (T S : Sto) : Res Rv := match rs with
  | [.v (.int i)] => .ok (.v (.int i)) T S
  | _ => .bad
theorem cs_int : CallS ct X W (.type "int") c_int := by
  refine ⟨_, call_int1, fun xs rs T S G H L M σ Q f rr h => ?_⟩
  unfold c_int at h
  split at h
  · rename_i i
    obtain ⟨x, rfl, r1⟩ := rs1 rr
    cases (show Rep X.K G x (.int i) from r1)
    exact .inl ⟨i, rfl, sat_d f h (.int _)⟩
  · exact (show False from h).elim
def c_str (rs : List Rv) (T S : Sto) : Res Rv := match rs with
  | [.v (.int i)] => if i.natAbs.log2 < 1920 then .ok (.v (.str (toString i))) T S else .bad
  | _ => .bad
theorem cs_str : CallS ct X W (.type "str") c_str := by
  refine ⟨_, call_str_int, fun xs rs T S G H L M σ Q f rr h => ?_⟩
  unfold c_str at h
  split at h
  · rename_i i
    split at h
    · rename_i hz
      obtain ⟨x, rfl, r1⟩ := rs1 rr
      cases (show Rep X.K G x (.int i) from r1)
      exact ⟨i, rfl, hz, sat_d f h (.str _)⟩
    · exact (show False from h).elim
  · exact (show False from h).elim
/-- truth values only -/
def bools : List D → Option (List Bool)
  | [] => some []
  | .bool b :: r => (bools r).map (b :: ·)
  | _ :: _ => none
def c_all (rs : List Rv) (T S : Sto) : Res Rv := match rs with
  | [r] => (match look r T S with
    | some (.list xs) => (match bools xs with | some bs => .ok (.v (.bool (bs.all id))) T S | none => .bad)
    | _ => .bad)
  | _ => .bad
def c_any (rs : List Rv) (T S : Sto) : Res Rv := match rs with
  | [r] => (match look r T S with
    | some (.list xs) => (match bools xs with | some bs => .ok (.v (.bool (bs.any id))) T S | none => .bad)
    | _ => .bad)
  | _ => .bad
end
end RB
end
/-! text RStmt -/
section
set_option Elab.async false
set_option linter.all false
set_option maxRecDepth 100000
set_option maxHeartbeats 4000000
/-! RStmt: statements, loops, functions. -/
namespace RB
open PySem PySem.Spec PyProof.Rows L2
inductive Out where
  | next (ρ : Vn) (T S : Sto)
  | ret (r : Rv) (T S : Sto)
  | brk (ρ : Vn) (T S : Sto)
  | cnt (ρ : Vn) (T S : Sto)
  | exn (x : Exn) (ρ : Vn) (T S : Sto)
  | bad
abbrev SM := Vn → Sto → Sto → Out
def Res.out {α : Type} (r : Res α) (ρ : Vn) (k : α → Sto → Sto → Out) : Out := match r with
  | .ok a T S => k a T S
  | .exn x T S => .exn x ρ T S
  | .bad => .bad
@[simp] theorem Res.out_ok {α : Type} (a : α) (T S : Sto) (ρ : Vn) (k : α → Sto → Sto → Out) : (Res.ok a T S).out ρ k = k a T S := rfl
@[simp] theorem Res.out_exn {α : Type} (x : Exn) (T S : Sto) (ρ : Vn) (k : α → Sto → Sto → Out) : (Res.exn x T S : Res α).out ρ k = .exn x ρ T S := rfl
@[simp] theorem Res.out_bad {α : Type} (ρ : Vn) (k : α → Sto → Sto → Out) : (Res.bad : Res α).out ρ k = .bad := rfl
def Out.thn (o : Out) (s : SM) : Out := match o with
  | .next ρ T S => s ρ T S
  | o => o
@[simp] theorem Out.thn_next (ρ : Vn) (T S : Sto) (s : SM) : (Out.next ρ T S).thn s = s ρ T S := rfl
@[simp] theorem Out.thn_ret (r : Rv) (T S : Sto) (s : SM) : (Out.ret r T S).thn s = .ret r T S := rfl
@[simp] theorem Out.thn_brk (ρ : Vn) (T S : Sto) (s : SM) : (Out.brk ρ T S).thn s = .brk ρ T S := rfl
@[simp] theorem Out.thn_cnt (ρ : Vn) (T S : Sto) (s : SM) : (Out.cnt ρ T S).thn s = .cnt ρ T S := rfl
@[simp] theorem Out.thn_exn (x : Exn) (ρ : Vn) (T S : Sto) (s : SM) : (Out.exn x ρ T S).thn s = .exn x ρ T S := rfl
@[simp] theorem Out.thn_bad (s : SM) : Out.bad.thn s = .bad := rfl
def Sl (K : PySem.W.Frag) [WC K] (G : Hp) (L M : List Addr) (ρ : Vn) (σ : L2.St) : Prop := ρ.length = σ.length ∧ Slots K G L M ρ σ
section
variable (ct : Str → Option Addr) (K : PySem.W.Frag) [WC K] (W : WX)
def SatS (G H : Hp) (L M : List Addr) (E : Ends) : Out → Prop
  | .next ρ' T' S' => ∀ G' H' L' M' σ', Ext G H L M G' H' L' M' → Fits K G' H' L' M' T' S' → Sl K G' L' M' ρ' σ' → E.nx σ' H'
  | .ret r T' S' => ∀ G' H' L' M' x, Ext G H L M G' H' L' M' → Fits K G' H' L' M' T' S' → RepR K G' L' M' x r → E.rt x H'
  | .brk ρ' T' S' => ∀ G' H' L' M' σ', Ext G H L M G' H' L' M' → Fits K G' H' L' M' T' S' → Sl K G' L' M' ρ' σ' → E.bk σ' H'
  | .cnt ρ' T' S' => ∀ G' H' L' M' σ', Ext G H L M G' H' L' M' → Fits K G' H' L' M' T' S' → Sl K G' L' M' ρ' σ' → E.ct σ' H'
  | .exn x ρ' T' S' => ∀ G' H' L' M' σ' c d, Ext G H L M G' H' L' M' → Fits K G' H' L' M' T' S' → Sl K G' L' M' ρ' σ' → RepX ct K G' H' c d x → W c d σ' H'
  | .bad => False
end
section
variable {ct : Str → Option Addr} {K : PySem.W.Frag} [WC K] {W : WX} {G H G1 H1 : Hp} {L M L1 M1 : List Addr} {E : Ends}
theorem SatS.pre {o : Out} (e : Ext G H L M G1 H1 L1 M1) (h : SatS ct K W G H L M E o) : SatS ct K W G1 H1 L1 M1 E o := by
  cases o with
  | next ρ T S => exact fun G' H' L' M' s e' f q => h G' H' L' M' s (e.trans e') f q
  | ret r T S => exact fun G' H' L' M' s e' f q => h G' H' L' M' s (e.trans e') f q
  | brk ρ T S => exact fun G' H' L' M' s e' f q => h G' H' L' M' s (e.trans e') f q
  | cnt ρ T S => exact fun G' H' L' M' s e' f q => h G' H' L' M' s (e.trans e') f q
  | exn x ρ T S => exact fun G' H' L' M' s c d e' f q => h G' H' L' M' s c d (e.trans e') f q
  | bad => exact h
/-- an expression, then what follows -/
theorem SatS.of {α β : Type} {rel : Hp → List Addr → List Addr → β → α → Prop} {ρ : Vn} {σ : L2.St} {Q : β → Hp → Prop} {r : Res α} {k : α → Sto → Sto → Out} (sl : Sl K G L M ρ σ) (h : SatS ct K W G H L M E (r.out ρ k))
    (hk : ∀ a T' S' G' H' L' M' y, Ext G H L M G' H' L' M' → Fits K G' H' L' M' T' S' → rel G' L' M' y a → SatS ct K W G' H' L' M' E (k a T' S') → Q y H') : Sat ct K W G H L M σ rel Q r := by
  cases r with
  | ok a T S => exact fun G' H' L' M' y e f q => hk a T S G' H' L' M' y e f q (SatS.pre e h)
  | exn x T S => exact fun G' H' L' M' c d e f q => h G' H' L' M' σ c d e f ⟨sl.1, sl.2.mono e⟩ q
  | bad => exact h
end
section
variable (ct : Str → Option Addr) (X : Cx) [WC X.K] (W : WX)
def SS (st : Stmt) (s : SM) : Prop :=
  ∃ t, PS X st t ∧ ∀ (ρ : Vn) (T S : Sto) (G H : Hp) (L M : List Addr) (σ : L2.St) (E : Ends), Fits X.K G H L M T S → Sl X.K G L M ρ σ → SatS ct X.K W G H L M E (s ρ T S) → t E σ H
def SSs (st : List Stmt) (s : SM) : Prop :=
  ∃ t, PSs X st t ∧ ∀ (ρ : Vn) (T S : Sto) (G H : Hp) (L M : List Addr) (σ : L2.St) (E : Ends), Fits X.K G H L M T S → Sl X.K G L M ρ σ → SatS ct X.K W G H L M E (s ρ T S) → t E σ H
end
def skipS : SM := fun ρ T S => .next ρ T S
def seqS (s u : SM) : SM := fun ρ T S => (s ρ T S).thn u
def retS (m : EM Rv) : SM := fun ρ T S => (m ρ T S).out ρ fun r T S => .ret r T S
def dropS (m : EM Rv) : SM := fun ρ T S => (m ρ T S).out ρ fun _ T S => .next ρ T S
def setS (i : Nat) (m : EM Rv) : SM := fun ρ T S => (m ρ T S).out ρ fun r T S => .next (ρ.set i (some r)) T S
def ifS (c : EM Bool) (s u : SM) : SM := fun ρ T S => (c ρ T S).out ρ fun b T S => if b = true then s ρ T S else u ρ T S
section
variable {ct : Str → Option Addr} {X : Cx} [WC X.K] {W : WX} {st : Stmt} {rest : List Stmt} {s u : SM} {e : Expr} {m : EM Rv} {pos : Pos}
theorem sss_nil : SSs ct X W [] skipS := ⟨tNext, pss_nil, fun ρ T S G H L M σ E f sl h => h G H L M σ (Ext.refl _ _ _ _) f sl⟩
theorem sss_one (h : SS ct X W st s) : SSs ct X W [st] s := by
  obtain ⟨t, p, q⟩ := h
  exact ⟨t, pss_one p, q⟩
theorem sss_cons (h : SS ct X W st s) (h2 : SSs ct X W rest u) : SSs ct X W (st :: rest) (seqS s u) := by
  obtain ⟨t, p, q⟩ := h
  obtain ⟨t2, p2, q2⟩ := h2
  refine ⟨tSeq t t2, pss_cons p p2, fun ρ T S G H L M σ E f sl h => ?_⟩
  refine q ρ T S G H L M σ _ f sl ?_
  unfold seqS at h
  cases e : s ρ T S with
  | next ρ1 T1 S1 =>
    rw [e] at h
    exact fun G' H' L' M' σ' x f' sl' => q2 ρ1 T1 S1 G' H' L' M' σ' E f' sl' (SatS.pre x h)
  | ret r T1 S1 => rw [e] at h; exact h
  | brk ρ1 T1 S1 => rw [e] at h; exact h
  | cnt ρ1 T1 S1 => rw [e] at h; exact h
  | exn x ρ1 T1 S1 => rw [e] at h; exact h
  | bad => rw [e] at h; exact h
theorem ss_ret (h : SE ct X W e m) : SS ct X W (.Return (some e) pos) (retS m) := by
  obtain ⟨t, p, q⟩ := h
  refine ⟨tRet t, ps_ret p, fun ρ T S G H L M σ E f sl h => ?_⟩
  exact q ρ T S G H L M σ _ sl.1 f sl.2 (SatS.of sl h fun r T1 S1 G1 H1 L1 M1 x e1 f1 r1 h1 => h1 G1 H1 L1 M1 x (Ext.refl _ _ _ _) f1 r1)
theorem ss_expr (h : SE ct X W e m) (hs : swapsWith e none pos.line X.env = pure false) : SS ct X W (.Expr e pos) (dropS m) := by
  obtain ⟨t, p, q⟩ := h
  refine ⟨tDrop t, ps_expr p hs, fun ρ T S G H L M σ E f sl h => ?_⟩
  exact q ρ T S G H L M σ _ sl.1 f sl.2 (SatS.of sl h fun r T1 S1 G1 H1 L1 M1 x e1 f1 r1 h1 => h1 G1 H1 L1 M1 σ (Ext.refl _ _ _ _) f1 ⟨sl.1, sl.2.mono e1⟩)
theorem Sl.set {K : PySem.W.Frag} [WC K] {G : Hp} {L M : List Addr} {ρ : Vn} {σ : L2.St} {i : Nat} {x : V} {r : Rv} (h : Sl K G L M ρ σ) (hr : RepR K G L M x r) : Sl K G L M (ρ.set i (some r)) (σ.set i (some x)) :=
  ⟨by rw [List.length_set, List.length_set]; exact h.1, h.2.set h.1 hr⟩
theorem Sl.mono {K : PySem.W.Frag} [WC K] {G H G' H' : Hp} {L M L' M' : List Addr} {ρ : Vn} {σ : L2.St} (e : Ext G H L M G' H' L' M') (h : Sl K G L M ρ σ) : Sl K G' L' M' ρ σ := ⟨h.1, h.2.mono e⟩
theorem ss_set {i : Nat} {x : Str} {pos' : Pos} (h : SE ct X W e m) (hN : X.N.Nodup) (hi : X.N[i]? = some x) (hx : Loc X.env.scope x) (hs : swapsWith e (some (.Name x pos')) pos.line X.env = pure false) (hf : X.fn x = true ∨ X.env.scope.names.lookup x = some .local) :
    SS ct X W (.Assign [.Name x pos'] e pos) (setS i m) := by
  obtain ⟨t, p, q⟩ := h
  refine ⟨tAsg t (gName i), ps_set hN hi hx p hs hf, fun ρ T S G H L M σ E f sl h => ?_⟩
  exact q ρ T S G H L M σ _ sl.1 f sl.2 (SatS.of sl h fun r T1 S1 G1 H1 L1 M1 x e1 f1 r1 h1 => h1 G1 H1 L1 M1 _ (Ext.refl _ _ _ _) f1 ((sl.mono e1).set r1))
theorem ss_if {c : Expr} {a b : List Stmt} {mc : EM Bool} (hc : ST ct X W c mc) (ha : SSs ct X W a s) (hb : SSs ct X W b u) : SS ct X W (.If c a b pos) (ifS mc s u) := by
  obtain ⟨t, p, q⟩ := hc
  obtain ⟨ta, pa, qa⟩ := ha
  obtain ⟨tb, pb, qb⟩ := hb
  refine ⟨tIfS t ta tb, ps_if p pa pb, fun ρ T S G H L M σ E f sl h => ?_⟩
  refine q ρ T S G H L M σ _ sl.1 f sl.2 (SatS.of sl h fun r T1 S1 G1 H1 L1 M1 x e1 f1 r1 h1 => ?_)
  cases r1
  cases r with
  | true => exact qa ρ T1 S1 G1 H1 L1 M1 σ E f1 (sl.mono e1) h1
  | false => exact qb ρ T1 S1 G1 H1 L1 M1 σ E f1 (sl.mono e1) h1
end
/-! ### targets of data -/
abbrev TgM := D → Vn → Option Vn
section
variable (X : Cx) [WC X.K]
/-- js: the slots it writes -/
def SG (tg : Expr) (js : List Nat) (g : TgM) : Prop :=
  ∃ t, PG X tg t ∧ ∀ (x : V) (d : D) (ρ ρ' : Vn) (σ : L2.St) (G H : Hp) (L M : List Addr) (Q : L2.St → Hp → Prop), Same G H → Sl X.K G L M ρ σ → Rep X.K G x d → g d ρ = some ρ' →
    (∀ σ', Sl X.K G L M ρ' σ' → (∀ i, i ∉ js → σ'[i]? = σ[i]?) → σ'.length = σ.length → Q σ' H) → t x σ H Q
end
def tgName (i : Nat) : TgM := fun d ρ => some (ρ.set i (some (.v d)))
def tgsNil : List D → Vn → Option Vn := fun ds ρ => match ds with | [] => some ρ | _ => none
def tgsCons (g : TgM) (gs : List D → Vn → Option Vn) : List D → Vn → Option Vn := fun ds ρ => match ds with
  | d :: r => (g d ρ).bind fun ρ' => gs r ρ'
  | [] => none
def tgTup (n : Nat) (gs : List D → Vn → Option Vn) : TgM := fun d ρ => match d with
  | .tuple ds => if ds.length = n then gs ds ρ else none
  | _ => none
section
variable {ct : Str → Option Addr} {X : Cx} [WC X.K] {W : WX} {pos : Pos}
theorem sg_name {i : Nat} {x : Str} (hN : X.N.Nodup) (hi : X.N[i]? = some x) (hx : Loc X.env.scope x) (hf : X.fn x = true ∨ X.env.scope.names.lookup x = some .local) : SG X (.Name x pos) [i] (tgName i) := by
  refine ⟨gName i, pg_name hN hi hx hf, fun x d ρ ρ' σ G H L M Q sub sl r e h => ?_⟩
  cases e
  exact h _ (sl.set r) (fun j hj => by rw [List.getElem?_set_ne (by intro z; subst z; simp at hj)]) (by rw [List.length_set])
/-- target = data -/
def asgS (g : TgM) (m : EM Rv) : SM := fun ρ T S => (m ρ T S).out ρ fun r T S => match toD r T with
  | some (d, T') => (match g d ρ with
    | some ρ' => .next ρ' T' S
    | none => .bad)
  | none => .bad
/-- a, b = x, y: plain names, stored from the right -/
def parS (i j : Nat) (ms : EM (List Rv)) : SM := fun ρ T S => (ms ρ T S).out ρ fun rs T S => match rs with
  | [a, b] => .next ((ρ.set i (some a)).set j (some b)) T S
  | _ => .bad
theorem ss_par {i j : Nat} {x y : Str} {a b : Expr} {ms : EM (List Rv)} {px py pt : Pos} {kt k2 pt2} (hc : X.calm = true) (hN : X.N.Nodup) (hi : X.N[i]? = some x) (hj : X.N[j]? = some y) (hij : i ≠ j)
    (hx : X.env.scope.names.lookup x = some .local) (hy : X.env.scope.names.lookup y = some .local) (ha : SA ct X W [a, b] ms)
    (hw : swappedStores [.Tuple [.Name x px, .Name y py] kt pt] (.Tuple [a, b] k2 pt2) X.env = pure (some [x, y]))
    (hs : swapsWithSole [.Tuple [.Name x px, .Name y py] kt pt] (.Tuple [a, b] k2 pt2) pos.line X.env = pure false) :
    SS ct X W (.Assign [.Tuple [.Name x px, .Name y py] kt pt] (.Tuple [a, b] k2 pt2) pos) (parS i j ms) := by
  obtain ⟨t, p, q⟩ := ha
  refine ⟨tPar i j t, ps_par hc hN hi hj hij hx hy p hw hs, fun ρ T S G H L M σ E f sl h => ?_⟩
  refine q ρ T S G H L M σ _ sl.1 f sl.2 (SatS.of sl h fun rs T1 S1 G1 H1 L1 M1 xs e1 f1 r1 h1 => ?_)
  split at h1
  · cases r1 with
    | @cons u us _ _ ru rt =>
      cases rt with
      | @cons w ws _ _ rw' rt2 =>
        cases rt2
        exact ⟨u, w, rfl, h1 G1 H1 L1 M1 _ (Ext.refl _ _ _ _) f1 (((sl.mono e1).set ru).set rw')⟩
  · exact (show False from h1).elim
end
/-! ### dicts of the shared store, by text keys -/
def findD (kvs : List (Key × D)) (k : Key) : Option D := (kvs.find? fun kv => decide (kv.1 = k)).map (·.2)
def putD (kvs : List (Key × D)) (k : Key) (d : D) : List (Key × D) := if (kvs.any fun kv => decide (kv.1 = k)) = true then kvs.map (fun kv => if kv.1 = k then (kv.1, d) else kv) else kvs ++ [(k, d)]
section
variable {K : PySem.W.Frag} [WC K] {G : Hp}
theorem find_ok {k : Key} {d : D} : ∀ {ws : List (Key × V)} {kvs : List (Key × D)}, ws.map (·.1) = kvs.map (·.1) → Reps K G (ws.map (·.2)) (kvs.map (·.2)) → findD kvs k = some d → ∃ v, valV ws k = some v ∧ Rep K G v d
  | [], [], _, _, e => by cases e
  | [], _ :: _, h, _, _ => by cases h
  | _ :: _, [], h, _, _ => by cases h
  | (a, v) :: ws, (b, c) :: kvs, h, r, e => by
    rw [List.map_cons, List.map_cons] at h
    injection h with h1 h2
    cases r with
    | cons r1 r2 =>
      have h1 : a = b := h1
      subst h1
      unfold findD at e
      unfold valV
      rw [List.find?_cons] at e ⊢
      by_cases q : a = k
      · subst q
        rw [decide_eq_true rfl] at e ⊢
        cases e
        exact ⟨v, rfl, r1⟩
      · rw [decide_eq_false q] at e ⊢
        exact find_ok h2 r2 e
theorem any_keys (k : Key) : ∀ {ws : List (Key × V)} {kvs : List (Key × D)}, ws.map (·.1) = kvs.map (·.1) → (ws.any fun kv => decide (kv.1 = k)) = kvs.any fun kv => decide (kv.1 = k)
  | [], [], _ => rfl
  | [], _ :: _, h => by cases h
  | _ :: _, [], h => by cases h
  | (a, v) :: ws, (b, c) :: kvs, h => by
    rw [List.map_cons, List.map_cons] at h
    injection h with h1 h2
    have h1 : a = b := h1
    rw [List.any_cons, List.any_cons, any_keys k h2, h1]
theorem map_put {k : Key} {d : D} {v : V} (r : Rep K G v d) : ∀ {ws : List (Key × V)} {kvs : List (Key × D)}, ws.map (·.1) = kvs.map (·.1) → Reps K G (ws.map (·.2)) (kvs.map (·.2)) →
    (ws.map (fun kv => if kv.1 = k then (kv.1, v) else kv)).map (·.1) = (kvs.map (fun kv => if kv.1 = k then (kv.1, d) else kv)).map (·.1) ∧
    Reps K G ((ws.map (fun kv => if kv.1 = k then (kv.1, v) else kv)).map (·.2)) ((kvs.map (fun kv => if kv.1 = k then (kv.1, d) else kv)).map (·.2))
  | [], [], _, _ => ⟨rfl, .nil⟩
  | [], _ :: _, h, _ => by cases h
  | _ :: _, [], h, _ => by cases h
  | (a, u) :: ws, (b, c) :: kvs, h, q => by
    rw [List.map_cons, List.map_cons] at h
    injection h with h1 h2
    have h1 : a = b := h1
    subst h1
    cases q with
    | cons q1 q2 =>
      obtain ⟨i1, i2⟩ := map_put (k := k) r h2 q2
      simp only [List.map_cons]
      by_cases z : a = k
      · subst z
        simp only [if_true]
        exact ⟨by rw [i1], .cons r i2⟩
      · simp only [if_neg z]
        exact ⟨by rw [i1], .cons q1 i2⟩
theorem put_ok {k : Key} {d : D} {v : V} {ws : List (Key × V)} {kvs : List (Key × D)} (r : Rep K G v d) (h : ws.map (·.1) = kvs.map (·.1)) (q : Reps K G (ws.map (·.2)) (kvs.map (·.2))) :
    (putK ws k v).map (·.1) = (putD kvs k d).map (·.1) ∧ Reps K G ((putK ws k v).map (·.2)) ((putD kvs k d).map (·.2)) := by
  unfold putK putD
  rw [any_keys k h]
  split
  · exact map_put r h q
  · simp only [List.map_append, List.map_cons, List.map_nil]
    exact ⟨by rw [h], q.append (.cons r .nil)⟩
end
/-- d[key] -/
def dgetR (a b : Rv) (T S : Sto) : Res Rv := match a, b with
  | .loc n, .v (.str x) => (match S[n]? with
    | some (.dic kvs) => (match findD kvs (.inr x) with | some d => .ok (.v d) T S | none => .bad)
    | _ => .bad)
  | _, _ => .bad
section
variable {ct : Str → Option Addr} {X : Cx} [WC X.K] {W : WX} {pos : Pos} {o i e : Expr} {mo mi m : EM Rv}
theorem se_dget (hu : X.A.units + 1 < cLine) (ho : SE ct X W o mo) (hi : SE ct X W i mi) (hs : NoSl i) : SE ct X W (.Subscript o i pos) (bin dgetR mo mi) := by
  obtain ⟨t, p, q⟩ := ho
  obtain ⟨t2, p2, q2⟩ := hi
  refine ⟨tDGet t t2, pe_dget hu p p2 hs, fun ρ T S G H L M σ Q hl f sl h => ?_⟩
  refine q ρ T S G H L M σ _ hl f sl (Sat.bind h fun r T1 S1 G1 H1 L1 M1 x e1 f1 r1 h1 => ?_)
  refine q2 ρ T1 S1 G1 H1 L1 M1 σ _ hl f1 (sl.mono e1) (Sat.bind h1 fun k T2 S2 G2 H2 L2 M2 y e2 f2 r2 h2 => ?_)
  unfold dgetR at h2
  split at h2
  · rename_i n z
    split at h2
    · rename_i kvs ek
      split at h2
      · rename_i d ed
        obtain ⟨a, ha, rfl⟩ := r1.mono e2
        cases (show Rep X.K G2 y (.str z) from r2)
        obtain ⟨ws, w1, w2, w3, w4⟩ := f2.obL n a _ ha ek
        obtain ⟨v, hv, rv⟩ := find_ok w3 w4 ed
        exact ⟨a, v, rfl, .inl ⟨ws, .inr z, .inl w1, rfl, hv.symm⟩, sat_d f2 h2 rv⟩
      · exact (show False from h2).elim
    · exact (show False from h2).elim
  · exact (show False from h2).elim
/-- d[key] = e -/
def dputS (md mk m : EM Rv) : SM := fun ρ T S => (m ρ T S).out ρ fun r T S => (md ρ T S).out ρ fun a T S => (mk ρ T S).out ρ fun b T S => match a, b with
  | .loc n, .v (.str x) => (match S[n]?, toD r T with
    | some (.dic kvs), some (d, T') => if kvs.length < 16777216 then .next ρ T' (S.set n (.dic (putD kvs (.inr x) d))) else .bad
    | _, _ => .bad)
  | _, _ => .bad
theorem ss_dput {pos' : Pos} (hu : X.A.units + 1 < cLine) (ho : SE ct X W o mo) (hi : SE ct X W i mi) (he : SE ct X W e m) (hs : swapsWith e (some (.Subscript o i pos')) pos.line X.env = pure false) :
    SS ct X W (.Assign [.Subscript o i pos'] e pos) (dputS mo mi m) := by
  obtain ⟨t, p, q⟩ := he
  obtain ⟨t1, p1, q1⟩ := ho
  obtain ⟨t2, p2, q2⟩ := hi
  refine ⟨sDPut t1 t2 t, ps_dput hu p1 p2 p hs, fun ρ T S G H L M σ E f sl h => ?_⟩
  refine q ρ T S G H L M σ _ sl.1 f sl.2 (SatS.of sl h fun r T1 S1 G1 H1 L1 M1 x e1 f1 r1 h1 => ?_)
  refine q1 ρ T1 S1 G1 H1 L1 M1 σ _ sl.1 f1 (sl.2.mono e1) (SatS.of (sl.mono e1) h1 fun a T2 S2 G2 H2 L2 M2 y e2 f2 r2 h2 => ?_)
  refine q2 ρ T2 S2 G2 H2 L2 M2 σ _ sl.1 f2 (sl.2.mono (e1.trans e2)) (SatS.of (sl.mono (e1.trans e2)) h2 fun b T3 S3 G3 H3 L3 M3 z e3 f3 r3 h3 => ?_)
  split at h3
  · rename_i n k
    split at h3
    · rename_i kvs d T' ek ed
      split at h3
      · rename_i hz
        obtain ⟨G4, x4, f4, r4⟩ := toD_ok f3 (r1.mono (e2.trans e3)) ed
        obtain ⟨a, ha, rfl⟩ := r2.mono e3
        cases (show Rep X.K G3 z (.str k) from r3)
        obtain ⟨ws, w1, w2, w3, w4⟩ := f4.obL n a _ ha ek
        obtain ⟨c1, c2⟩ := put_ok (k := .inr k) r4 w3 w4
        obtain ⟨x5, f5⟩ := f4.setL (u := .dK (putK ws (.inr k) x)) (o := .dic (putD kvs (.inr k) d)) ha w2 ⟨_, upd_same, w2, c1, c2⟩ (fun _ z => by cases z)
        have wl : ws.length = kvs.length := by have := congrArg List.length w3; simpa using this
        exact ⟨a, _, rfl, DPut.k (k := .inr k) w1 (by rw [wl]; exact Nat.lt_of_lt_of_le hz (by rw [sizeLine_eq]; exact Nat.le_refl _)), h3 _ _ _ _ σ (x4.trans x5) f5 (sl.mono (((e1.trans e2).trans e3).trans (x4.trans x5)))⟩
      · exact (show False from h3).elim
    · exact (show False from h3).elim
  · exact (show False from h3).elim
end
end RB
end
/-! text RLoop -/
section
set_option Elab.async false
set_option linter.all false
set_option maxRecDepth 100000
set_option maxHeartbeats 4000000
/-! RLoop: what is walked, loops, comprehensions, functions and their calls. -/
namespace RB
open PySem PySem.Spec PyProof.Rows L2
/-! ### what is walked -/
def WalkD (K : PySem.W.Frag) [WC K] (J : It) (G : Hp) (ds : List D) : Prop :=
  (∀ (i : Nat) (G1 H1 : Hp) (d : D), Same G G1 → Same G1 H1 → ds[i]? = some d → J.go i H1 ∧ ∀ x H2, J.yld i H1 x H2 → (H2 = H1 ∧ Rep K G1 x d) ∨ ∃ (p : Addr) (ws : List V), H1 p = none ∧ H2 = upd H1 p (.tup ws) ∧ Rep K (upd G1 p (.tup ws)) x d) ∧
  ∀ (i : Nat) (G1 H1 : Hp), Same G G1 → Same G1 H1 → ds.length ≤ i → J.stop i H1
theorem WalkD.mono {K : PySem.W.Frag} [WC K] {J : It} {G G' : Hp} {ds : List D} (e : Same G G') (h : WalkD K J G ds) : WalkD K J G' ds :=
  ⟨fun i G1 H1 d a b c => h.1 i G1 H1 d (e.trans a) b c, fun i G1 H1 a b c => h.2 i G1 H1 (e.trans a) b c⟩
abbrev relI (K : PySem.W.Frag) [WC K] : Hp → List Addr → List Addr → It → List D → Prop := fun G _ _ J ds => WalkD K J G ds
def SI (ct : Str → Option Addr) (X : Cx) [WC X.K] (W : WX) (tg iter : Expr) (m : EM (List D)) : Prop :=
  ∃ wi, PI X tg iter wi ∧ ∀ (ρ : Vn) (T S : Sto) (G H : Hp) (L M : List Addr) (σ : L2.St) (R : It → Hp → Prop), Fits X.K G H L M T S → Sl X.K G L M ρ σ → Sat ct X.K W G H L M σ (relI X.K) R (m ρ T S) → wi σ H R
section
variable {K : PySem.W.Frag} [WC K] {G : Hp} {a : Addr} {vs : List V} {ds : List D}
theorem walk_list (h : SqL K G a vs) (r : Reps K G vs ds) : WalkD K (Itl K a) G ds := by
  refine ⟨fun i G1 H1 d e1 e2 hd => ?_, fun i G1 H1 e1 e2 hi => ⟨vs, (e1.trans e2).seq h, by rw [r.length]; exact hi⟩⟩
  obtain ⟨x, hx, rx⟩ := r.get hd
  refine ⟨⟨vs, x, (e1.trans e2).seq h, hx⟩, fun y H2 hy => .inl ⟨hy.1, ?_⟩⟩
  have := hy.2 vs ((e1.trans e2).seq h)
  rw [hx] at this
  cases this
  exact rx.mono e1
theorem walk_tup (h : TupAt K G a vs) (r : Reps K G vs ds) : WalkD K (Itt K a) G ds := by
  refine ⟨fun i G1 H1 d e1 e2 hd => ?_, fun i G1 H1 e1 e2 hi => ⟨vs, sqT_mono (e1.trans e2) h, by rw [r.length]; exact hi⟩⟩
  obtain ⟨x, hx, rx⟩ := r.get hd
  refine ⟨⟨vs, x, sqT_mono (e1.trans e2) h, hx⟩, fun y H2 hy => .inl ⟨hy.1, ?_⟩⟩
  have := hy.2 vs (sqT_mono (e1.trans e2) h)
  rw [hx] at this
  cases this
  exact rx.mono e1
def signs (x : Str) : List D := x.cps.toList.map fun c => .str ⟨#[c]⟩
theorem walk_str (K : PySem.W.Frag) [WC K] (G : Hp) (x : Str) : WalkD K (Its x) G (signs x) := by
  refine ⟨fun i G1 H1 d e1 e2 hd => ?_, fun i G1 H1 e1 e2 hi => show x.cps.size ≤ i by simpa [signs] using hi⟩
  have hl := lt_of_get hd
  unfold signs at hd hl
  rw [List.length_map, Array.length_toList] at hl
  refine ⟨hl, fun y H2 hy => .inl ⟨hy.1, ?_⟩⟩
  obtain ⟨_, c, hc, rfl⟩ := hy
  rw [List.getElem?_map, Array.getElem?_toList, hc] at hd
  cases hd
  exact .str _
theorem walk_range (K : PySem.W.Frag) [WC K] (G : Hp) (lo : Int) (n : Nat) : WalkD K (Itr lo n) G ((List.range n).map fun (i : Nat) => .int (lo + (i : Int))) := by
  refine ⟨fun i G1 H1 d e1 e2 hd => ?_, fun i G1 H1 e1 e2 hi => show n ≤ i by simpa using hi⟩
  have hl := lt_of_get hd
  rw [List.length_map, List.length_range] at hl
  refine ⟨hl, fun y H2 hy => .inl ⟨hy.1, ?_⟩⟩
  obtain ⟨_, rfl⟩ := hy
  rw [List.getElem?_map, List.getElem?_range hl] at hd
  cases hd
  exact .int _
end
/-- the items of a sequence -/
def itemsR (r : Rv) (T S : Sto) : Res (List D) := match r with
  | .scr ns => .ok (ns.map .int) T S
  | r => match toD r T with
    | some (.list xs, T') => .ok xs T' S
    | some (.tuple xs, T') => .ok xs T' S
    | some (.str x, T') => .ok (signs x) T' S
    | _ => .bad
def seqM (m : EM Rv) : EM (List D) := fun ρ T S => (m ρ T S).bind fun r T S => itemsR r T S
def intsD (lo : Int) (n : Nat) : List D := (List.range n).map fun (i : Nat) => .int (lo + (i : Int))
def rng1 (ms : EM (List Rv)) : EM (List D) := fun ρ T S => (ms ρ T S).bind fun rs T S => match rs with
  | [.v (.int n)] => if -(2 ^ 62) ≤ n ∧ n < 2 ^ 62 then .ok (intsD 0 n.toNat) T S else .bad
  | _ => .bad
def enumD (ds : List D) : List D := ds.mapIdx fun i d => .tuple [.int (i : Int), d]
def zipD (ds es : List D) : List D := (ds.zip es).map fun p => .tuple [p.1, p.2]
def zipM (ms : EM (List Rv)) : EM (List D) := fun ρ T S => (ms ρ T S).bind fun rs T S => match toDs rs T with
  | some ([.list xs, .list ys], T') => .ok (zipD xs ys) T' S
  | some ([.tuple xs, .tuple ys], T') => .ok (zipD xs ys) T' S
  | _ => .bad
section
variable {ct : Str → Option Addr} {X : Cx} [WC X.K] {W : WX} {tg e : Expr} {m : EM Rv}
theorem pi_seq {t : TE} (h : PE X e t) : PI X tg e (fun σ H R => t σ H fun x H1 => (∃ a, x = .ref a ∧ (∃ xs, SqL X.K H1 a xs) ∧ R (Itl X.K a) H1) ∨ (∃ a, x = .ref a ∧ (∃ xs, SqT X.K H1 a xs) ∧ R (Itt X.K a) H1) ∨ ∃ z, x = .str z ∧ R (Its z) H1) := by
  refine ⟨fun pins s σ H R I q => ?_⟩
  refine thn (h.run pins s σ H _ I q) fun u s1 ⟨x, H1, I1, r1, q1⟩ => ?_
  rcases q1 with ⟨a, ex, hx, q1⟩ | ⟨a, ex, hx, q1⟩ | ⟨z, ex, q1⟩
  · subst ex
    cases r1
    obtain ⟨xs, hq⟩ := hx
    obtain ⟨its, rv, p, hz⟩ := I1.list hq
    refine wpAny_pyIter_list p.isList ?_
    refine ⟨s1.heap.objs.size, [s1.heap.objs.size], _, _, H1, rfl, I1.kept (t' := s1.toks) fun b o e => Heap.get?_push_of_some _ e, turn_list a _, ⟨_, Heap.get?_push_size _ rfl, rfl, rfl⟩, fun b hb => ?_, q1⟩
    have e : b = s1.heap.objs.size := by simpa using hb
    subst e
    exact I1.fpOk (Nat.le_refl _) (I1.hok.fresh (Nat.le_refl _))
  · subst ex
    cases r1
    obtain ⟨xs, hq⟩ := hx
    obtain ⟨its, rv, p, hz⟩ := I1.tuple hq
    refine wpAny_pyIter_tuple (show s1.heap.IsTuple a its.toArray from p) ?_
    refine ⟨s1.heap.objs.size, [s1.heap.objs.size], _, _, H1, rfl, I1.kept (t' := s1.toks) fun b o e => Heap.get?_push_of_some _ e, turn_tuple a _, ⟨_, Heap.get?_push_size _ rfl, rfl, rfl⟩, fun b hb => ?_, q1⟩
    have e : b = s1.heap.objs.size := by simpa using hb
    subst e
    exact I1.fpOk (Nat.le_refl _) (I1.hok.fresh (Nat.le_refl _))
  · subst ex
    obtain ⟨t, rfl⟩ := r1
    cases ha : z.cps.all (· < 128)
    · exact wpAny_pyIter_wide ha (pi_one (tk := s1.toks) I1 _ (turn_str _ z t "str_iterator" (.inr rfl)) ⟨_, Heap.get?_push_size _ rfl, rfl, rfl⟩ q1)
    · exact wpAny_pyIter_ascii ha (pi_one (tk := s1.toks) I1 _ (turn_str _ z t "str_ascii_iterator" (.inl rfl)) ⟨_, Heap.get?_push_size _ rfl, rfl, rfl⟩ q1)
theorem reps_ints (K : PySem.W.Frag) [WC K] (G : Hp) : ∀ ns : List Int, Reps K G (ns.map V.int) (ns.map PyData.int)
  | [] => .nil
  | n :: ns => .cons (.int n) (reps_ints K G ns)
theorem si_seq (h : SE ct X W e m) : SI ct X W tg e (seqM m) := by
  obtain ⟨t, p, q⟩ := h
  refine ⟨_, pi_seq p, fun ρ T S G H L M σ R f sl h => ?_⟩
  refine q ρ T S G H L M σ _ sl.1 f sl.2 (Sat.bind h fun r T1 S1 G1 H1 L1 M1 x e1 f1 r1 h1 => ?_)
  unfold itemsR at h1
  split at h1
  · rename_i ns
    obtain ⟨a, rfl, hs⟩ := r1
    exact .inl ⟨a, rfl, ⟨_, f1.sub.seq hs⟩, h1 G1 H1 L1 M1 _ (Ext.refl _ _ _ _) f1 (walk_list hs (reps_ints _ _ ns))⟩
  · split at h1
    · rename_i xs T' ed
      obtain ⟨G2, x2, f2, r2⟩ := toD_ok f1 r1 ed
      cases r2 with
      | @lst a vs _ hg hr => exact .inl ⟨a, rfl, ⟨vs, .inl (.inl (f2.sub _ _ hg))⟩, h1 G2 H1 L1 M1 _ x2 f2 (walk_list (.inl (.inl hg)) hr)⟩
    · rename_i xs T' ed
      obtain ⟨G2, x2, f2, r2⟩ := toD_ok f1 r1 ed
      cases r2 with
      | @tup a vs _ hg hr => exact .inr (.inl ⟨a, rfl, ⟨vs, sqT_mono f2.sub hg⟩, h1 G2 H1 L1 M1 _ x2 f2 (walk_tup hg hr)⟩)
    · rename_i z T' ed
      obtain ⟨G2, x2, f2, r2⟩ := toD_ok f1 r1 ed
      cases r2
      exact .inr (.inr ⟨z, rfl, h1 G2 H1 L1 M1 _ x2 f2 (walk_str _ _ z)⟩)
    · exact (show False from h1).elim
variable {p pos : Pos} {a b : Expr} {ms : EM (List Rv)}
theorem rs2 {K : PySem.W.Frag} [WC K] {G : Hp} {L M : List Addr} {xs : List V} {r s : Rv} (h : RepRs K G L M xs [r, s]) : ∃ x y, xs = [x, y] ∧ RepR K G L M x r ∧ RepR K G L M y s := by
  cases h with
  | cons h t =>
    obtain ⟨y, rfl, q⟩ := rs1 t
    exact ⟨_, y, rfl, h, q⟩
theorem si_range1 (hg : Gl X "range") (hm : X.mg "range" = none) (ha : SA ct X W [a] ms) (hs : starEach [a] X.env = [(false, eval a X.env)]) : SI ct X W tg (.Call (.Name "range" p) [a] [] pos) (rng1 ms) := by
  obtain ⟨t, p, q⟩ := ha
  refine ⟨_, pi_range1 hg hm p hs, fun ρ T S G H L M σ R f sl h => ?_⟩
  refine q ρ T S G H L M σ _ sl.1 f sl.2 (Sat.bind h fun rs T1 S1 G1 H1 L1 M1 xs e1 f1 r1 h1 => ?_)
  split at h1
  · rename_i n
    split at h1
    · rename_i hz
      obtain ⟨x, rfl, r2⟩ := rs1 r1
      cases (show Rep X.K G1 x (.int n) from r2)
      exact ⟨n, rfl, hz.1, hz.2, h1 G1 H1 L1 M1 _ (Ext.refl _ _ _ _) f1 (walk_range _ _ 0 _)⟩
    · exact (show False from h1).elim
  · exact (show False from h1).elim
end
/-! ### for -/
def forD (g : TgM) (body : SM) : List D → SM
  | [], ρ, T, S => .next ρ T S
  | d :: ds, ρ, T, S => match g d ρ with
    | some ρ' => (match body ρ' T S with
      | .next ρ1 T1 S1 => forD g body ds ρ1 T1 S1
      | .cnt ρ1 T1 S1 => forD g body ds ρ1 T1 S1
      | .brk ρ1 T1 S1 => .next ρ1 T1 S1
      | o => o)
    | none => .bad
def forS (items : EM (List D)) (g : TgM) (body : SM) : SM := fun ρ T S => (items ρ T S).out ρ fun ds T S => forD g body ds ρ T S
section
variable {ct : Str → Option Addr} {X : Cx} [WC X.K] {W : WX} {tg iter : Expr} {m : EM (List D)} {pos : Pos}
/-- what a turn leaves -/
def LoopN (ct : Str → Option Addr) (X : Cx) [WC X.K] (W : WX) (E : Ends) (g : TgM) (s : SM) (ds : List D) (G1 H1 : Hp) (L1 M1 : List Addr) (i : Nat) : L2.St → Hp → Prop := fun σ2 H2 => ∃ ρ2 T2 S2 G2 L2 M2, i + 1 ≤ ds.length ∧ Ext G1 H1 L1 M1 G2 H2 L2 M2 ∧ Fits X.K G2 H2 L2 M2 T2 S2 ∧ Sl X.K G2 L2 M2 ρ2 σ2 ∧ SatS ct X.K W G2 H2 L2 M2 E (forD g s (ds.drop (i + 1)) ρ2 T2 S2)
def loopE (E : Ends) (N : L2.St → Hp → Prop) : Ends := { E with nx := N, ct := N, bk := E.nx }
theorem ss_for {body : List Stmt} {js : List Nat} {g : TgM} {s : SM} (hp : PassesOwn (model X.prog X.w) X.A X.env X.xe) (hc : X.calm = true) (hi : SI ct X W tg iter m) (hg : SG X tg js g) (hb : SSs ct X W body s)
    (hs : ∀ x, foldedSetIterable iter X.env x = pure x) : SS ct X W (.For tg iter body [] pos) (forS m g s) := by
  obtain ⟨wi, pi, qi⟩ := hi
  obtain ⟨tt, pt, qt⟩ := hg
  obtain ⟨tb, pb, qb⟩ := hb
  refine ⟨tFor wi tt tb, ps_for hp hc pi pt pb hs, fun ρ T S G H L M σ E f sl h => ?_⟩
  refine qi ρ T S G H L M σ _ f sl (SatS.of sl h fun ds T1 S1 G1 H1 L1 M1 J e1 f1 wk h1 => ?_)
  refine ⟨fun i n σ' H' => ∃ ρ' T' S' G' L' M', n = ds.length - i ∧ i ≤ ds.length ∧ Ext G1 H1 L1 M1 G' H' L' M' ∧ Fits X.K G' H' L' M' T' S' ∧ Sl X.K G' L' M' ρ' σ' ∧ SatS ct X.K W G' H' L' M' E (forD g s (ds.drop i) ρ' T' S'),
    ⟨ds.length, ρ, T1, S1, G1, L1, M1, by simp, Nat.zero_le _, Ext.refl _ _ _ _, f1, sl.mono e1, by simpa using h1⟩, ?_⟩
  rintro i n σ' H' ⟨ρ', T', S', G', L', M', rfl, hi, e', f', sl', h'⟩
  by_cases hlt : i < ds.length
  · rw [List.drop_eq_getElem_cons hlt] at h'
    have hd : ds[i]? = some ds[i] := List.getElem?_eq_getElem hlt
    obtain ⟨go, yl⟩ := wk.1 i G' H' _ e'.gm f'.sub hd
    refine .inr ⟨go, LoopN ct X W E g s ds G1 H1 L1 M1 i,
      fun σ2 H2 ⟨ρ2, T2, S2, G2, L2, M2, a1, a2, a3, a4, a5⟩ => ⟨ds.length - (i + 1), by omega, ρ2, T2, S2, G2, L2, M2, rfl, a1, a2, a3, a4, a5⟩, fun x H2 hy => ?_⟩
    have go2 : ∀ G2, Ext G' H' L' M' G2 H2 L' M' → Fits X.K G2 H2 L' M' T' S' → Rep X.K G2 x ds[i] → tt x σ' H2 fun σ2 H3 => tb (loopE E (LoopN ct X W E g s ds G1 H1 L1 M1 i)) σ2 H3 := fun G2 x2 f2 r2 => by
      unfold forD at h'
      split at h'
      · rename_i ρ2 eg
        refine qt x ds[i] ρ' ρ2 σ' G2 H2 L' M' _ f2.sub (sl'.mono x2) r2 eg fun σ3 sl3 _ _ => ?_
        refine qb ρ2 T' S' G2 H2 L' M' σ3 _ f2 sl3 ?_
        cases eb : s ρ2 T' S' with
        | next ρ4 T4 S4 =>
          rw [eb] at h'
          exact fun G4 H4 L4 M4 σ4 x4 f4 sl4 => ⟨ρ4, T4, S4, G4, L4, M4, hlt, (e'.trans x2).trans x4, f4, sl4, SatS.pre (x2.trans x4) h'⟩
        | cnt ρ4 T4 S4 =>
          rw [eb] at h'
          exact fun G4 H4 L4 M4 σ4 x4 f4 sl4 => ⟨ρ4, T4, S4, G4, L4, M4, hlt, (e'.trans x2).trans x4, f4, sl4, SatS.pre (x2.trans x4) h'⟩
        | brk ρ4 T4 S4 =>
          rw [eb] at h'
          exact fun G4 H4 L4 M4 σ4 x4 f4 sl4 => h' G4 H4 L4 M4 σ4 (x2.trans x4) f4 sl4
        | ret r T4 S4 => rw [eb] at h'; exact SatS.pre (o := .ret r T4 S4) x2 h'
        | exn z ρ4 T4 S4 => rw [eb] at h'; exact SatS.pre (o := .exn z ρ4 T4 S4) x2 h'
        | bad => rw [eb] at h'; exact h'
      · exact (show False from h').elim
    rcases yl x H2 hy with ⟨rfl, r2⟩ | ⟨p, ws, hp, rfl, r2⟩
    · exact go2 G' (Ext.refl _ _ _ _) f' r2
    · obtain ⟨x3, f3⟩ := f'.new (o := .tup ws) hp (fun _ z => by cases z)
      exact go2 _ x3 f3 r2
  · have e : i = ds.length := by omega
    subst e
    rw [List.drop_length] at h'
    exact .inl ⟨wk.2 _ G' H' e'.gm f'.sub (Nat.le_refl _), h' G' H' L' M' σ' (Ext.refl _ _ _ _) f' sl'⟩
end
end RB
end
/-! text RComp -/
section
set_option Elab.async false
set_option linter.all false
set_option maxRecDepth 100000
set_option maxHeartbeats 4000000
/-! RComp: list comprehensions. -/
namespace RB
open PySem PySem.Spec PyProof.Rows L2
/-! ### one reading for all contexts of a block -/
section
variable (ct : Str → Option Addr) (K : PySem.W.Frag) [WC K] (W : WX)
def tOfE (m : EM Rv) : TE := fun σ H Q => ∃ ρ T S G L M, ρ.length = σ.length ∧ Fits K G H L M T S ∧ Slots K G L M ρ σ ∧ Sat ct K W G H L M σ (RepR K) Q (m ρ T S)
def tOfT (m : EM Bool) : TT := fun σ H Q => ∃ ρ T S G L M, ρ.length = σ.length ∧ Fits K G H L M T S ∧ Slots K G L M ρ σ ∧ Sat ct K W G H L M σ relB Q (m ρ T S)
def tOfG (js : List Nat) (g : TgM) : TG := fun x σ H Q => ∃ d ρ ρ' G L M, Same G H ∧ Sl K G L M ρ σ ∧ Rep K G x d ∧ g d ρ = some ρ' ∧ ∀ σ', Sl K G L M ρ' σ' → (∀ i, i ∉ js → σ'[i]? = σ[i]?) → σ'.length = σ.length → Q σ' H
end
section
variable {ct : Str → Option Addr} {X : Cx} [WC X.K] {W : WX}
theorem SE.canon {e : Expr} {m : EM Rv} (h : SE ct X W e m) : PE X e (tOfE ct X.K W m) := by
  obtain ⟨t, p, q⟩ := h
  exact ⟨fun pins s σ H Q I ⟨ρ, T, S, G, L, M, h1, h2, h3, h4⟩ => p.run pins s σ H Q I (q ρ T S G H L M σ Q h1 h2 h3 h4)⟩
theorem ST.canon {e : Expr} {m : EM Bool} (h : ST ct X W e m) : PT X e (tOfT ct X.K W m) := by
  obtain ⟨t, p, q⟩ := h
  exact ⟨fun pins s σ H Q I ⟨ρ, T, S, G, L, M, h1, h2, h3, h4⟩ => p.run pins s σ H Q I (q ρ T S G H L M σ Q h1 h2 h3 h4)⟩
theorem SG.canon {tg : Expr} {js : List Nat} {g : TgM} (h : SG X tg js g) : PG X tg (tOfG X.K js g) := by
  obtain ⟨t, p, q⟩ := h
  exact ⟨fun pins s σ H x u Q I r ⟨d, ρ, ρ', G, L, M, h1, h2, h3, h4, h5⟩ => p.run pins s σ H x u Q I r (q x d ρ ρ' σ G H L M Q h1 h2 h3 h4 h5)⟩
/-- a clause's tests -/
def STs (ct : Str → Option Addr) (X : Cx) [WC X.K] (W : WX) (ifs : List Expr) (m : EM Bool) : Prop := PTs X ifs (tOfT ct X.K W m)
def yesM : EM Bool := fun _ T S => .ok true T S
theorem sts_one {e : Expr} {m : EM Bool} (h : ST ct X W e m) : STs ct X W [e] m := pts_one h.canon
end
/-! ### the semantics -/
def wipeV (ρ : Vn) : List Nat → Vn
  | [] => ρ
  | v :: vs => (wipeV ρ vs).set v none
def compD (g : TgM) (tests : EM Bool) (elt : EM Rv) (ρ : Vn) : List D → Sto → Sto → Res (List D)
  | [], T, S => .ok [] T S
  | d :: ds, T, S => match g d ρ with
    | some ρ' => (match tests ρ' T S with
      | .ok true T1 S1 => (match elt ρ' T1 S1 with
        | .ok r T2 S2 => (match toD r T2 with
          | some (d', T3) => (compD g tests elt ρ ds T3 S2).bind fun rs T S => .ok (d' :: rs) T S
          | none => .bad)
        | _ => .bad)
      | .ok false T1 S1 => compD g tests elt ρ ds T1 S1
      | _ => .bad)
    | none => .bad
/-- a new list: frozen, or one that may change -/
def newL (own : Bool) (ds : List D) (T S : Sto) : Res Rv :=
  if ds.length ≤ 16777216 then (if own = true then .ok (.own T.length) (T ++ [.lst ds]) S else .ok (.v (.list ds)) T S) else .bad
def lcM (own : Bool) (items : EM (List D)) (g : TgM) (tests : EM Bool) (elt : EM Rv) (vs : List Nat) : EM Rv := fun ρ T S =>
  (items ρ T S).bind fun ds T S => (compD g tests elt (wipeV ρ vs) ds T S).bind fun rs T S => newL own rs T S
section
variable {K : PySem.W.Frag} [WC K] {G H : Hp} {L M : List Addr} {T S : Sto}
theorem wipe_sl {ρ : Vn} {σ : L2.St} (h : Sl K G L M ρ σ) : ∀ vs : List Nat, Sl K G L M (wipeV ρ vs) (wipe σ vs)
  | [] => h
  | v :: vs => by
    have q := wipe_sl h vs
    exact ⟨by show ((wipeV ρ vs).set v none).length = ((wipe σ vs).set v none).length; rw [List.length_set, List.length_set]; exact q.1, q.2.unset⟩
theorem wipe_get {σ : L2.St} {i : Nat} : ∀ {vs : List Nat}, (wipe σ vs)[i]? = if i ∈ vs then (if i < σ.length then some none else none) else σ[i]?
  | [] => by simp [wipe]
  | v :: vs => by
    show ((wipe σ vs).set v none)[i]? = _
    rw [List.getElem?_set, wipe_get (vs := vs), wipe_length]
    by_cases e : v = i
    · subst e; simp
    · have e' : ¬ i = v := fun z => e z.symm
      simp [e, e']
theorem wipe_again {σ σ' : L2.St} {js vs : List Nat} (hl : σ'.length = σ.length) (hj : ∀ i, i ∈ js → i ∈ vs) (h : ∀ i, i ∉ js → σ'[i]? = (wipe σ vs)[i]?) : wipe σ' vs = wipe σ vs := by
  apply List.ext_getElem?
  intro i
  rw [wipe_get]
  by_cases hi : i ∈ vs
  · rw [if_pos hi, hl, wipe_get, if_pos hi]
  · rw [if_neg hi, h i fun z => hi (hj i z)]
/-- a tracked thing that nobody holds yet: it becomes frozen | the frame's own -/
theorem Fits.adopt {p : Addr} {vs : List V} {ds : List D} {G0 H0 : Hp} {L0 M0 : List Addr} (f : Fits K G H L M T S) (x : Ext G0 H0 L0 M0 G H L M) (h0 : H0 p = none) (hp : H p = some (.lst vs)) (hg : G p = none) (hL : p ∉ L) (hM : p ∉ M) (hr : Reps K G vs ds) :
    (Ext G0 H0 L0 M0 (upd G p (.lst vs)) H L M ∧ Fits K (upd G p (.lst vs)) H L M T S ∧ Rep K (upd G p (.lst vs)) (.ref p) (.list ds)) ∧
    (Ext G0 H0 L0 M0 G H L (M ++ [p]) ∧ Fits K G H L (M ++ [p]) (T ++ [.lst ds]) S) := by
  have g1 : Same G (upd G p (.lst vs)) := fun b u h => by rw [upd_ne (ne_of_none h hg)]; exact h
  refine ⟨⟨⟨x.gm.trans g1, x.lp, x.mp, x.keep, x.dom, fun b u h => ?_, x.ln, x.mn⟩, ⟨fun b u h => ?_, f.nd, f.lenL, f.lenM, fun k b q e1 e2 => ?_, fun k b q e1 e2 => ?_, tbs_g f.tbs (fun _ z => by cases z)⟩, .lst upd_same (hr.mono g1)⟩,
    ⟨x.gm, x.lp, x.mp.trans (List.prefix_append M [p]), x.keep, x.dom, x.gn, x.ln, fun b h => ?_⟩, ⟨f.sub, ?_, f.lenL, by rw [List.length_append, List.length_append, f.lenM]; rfl, f.obL, fun n b q e1 e2 => ?_, f.tbs⟩⟩
  · by_cases e : b = p
    · subst e; exact .inr (.inl (.inl h0))
    · rw [upd_ne e] at h; exact x.gn b u h
  · by_cases e : b = p
    · subst e; rw [upd_same] at h; cases h; exact hp
    · rw [upd_ne e] at h; exact f.sub b u h
  · refine ROb.mono (List.prefix_refl _) g1 (fun z => ?_) (fun z hz => hz) (f.obL k b q e1 e2)
    rw [upd_ne (show b ≠ p from fun e => hL (by rw [← e]; exact List.mem_of_getElem? e1))]; exact z
  · refine ROb.mono (List.prefix_refl _) g1 (fun z => ?_) (fun z hz => hz) (f.obM k b q e1 e2)
    rw [upd_ne (show b ≠ p from fun e => hM (by rw [← e]; exact List.mem_of_getElem? e1))]; exact z
  · rcases List.mem_append.mp h with z | z
    · exact x.mn b z
    · rw [List.mem_singleton] at z; subst z; exact .inr (.inl h0)
  · rw [← List.append_assoc]
    refine List.nodup_append.mpr ⟨f.nd, List.nodup_cons.mpr ⟨by simp, List.nodup_nil⟩, fun a ha b hb e => ?_⟩
    rw [List.mem_singleton] at hb
    subst hb; subst e
    exact (List.mem_append.mp ha).elim hL hM
  · by_cases hn : n < M.length
    · rw [List.getElem?_append_left hn] at e1
      rw [List.getElem?_append_left (by rw [← f.lenM]; exact hn)] at e2
      exact (f.obM n b q e1 e2).monoM (List.prefix_append _ _)
    · rw [List.getElem?_append_right (by omega)] at e1
      rw [List.getElem?_append_right (by have := f.lenM; omega)] at e2
      have hz : n - M.length = 0 := by
        have := lt_of_get e1
        simp at this
        omega
      rw [hz] at e1
      rw [← f.lenM, hz] at e2
      cases e1; cases e2
      exact ⟨vs, hp, hg, hr⟩
/-- a tracked list that nobody holds grows -/
theorem Fits.grow {p : Addr} {vs : List V} {u : HO} {G0 H0 : Hp} {L0 M0 : List Addr} (f : Fits K G H L M T S) (hu : ∀ ps, u ≠ .tbl ps) (x : Ext G0 H0 L0 M0 G H L M) (h0 : H0 p = none) (hp : H p = some (.lst vs)) (hg : G p = none) (hL : p ∉ L) (hM : p ∉ M) :
    Ext G0 H0 L0 M0 G (upd H p u) L M ∧ Fits K G (upd H p u) L M T S := by
  refine ⟨⟨x.gm, x.lp, x.mp, fun a o h nt hl hm => ?_, fun a o h nt => ?_, x.gn, x.ln, x.mn⟩, ⟨fun a o h => by rw [upd_ne (ne_of_none h hg)]; exact f.sub a o h, f.nd, f.lenL, f.lenM, fun k b q e1 e2 => ?_, fun k b q e1 e2 => ?_, tbs_upd f.tbs hp (fun _ z => by cases z) (fun _ _ z => by cases z) hu⟩⟩
  · rw [upd_ne (ne_of_none h h0)]; exact x.keep a o h nt hl hm
  · rw [upd_ne (ne_of_none h h0)]; exact x.dom a o h nt
  · refine ROb.mono (List.prefix_refl _) (Same.refl G) (fun z => z) (fun z hz => ?_) (f.obL k b q e1 e2)
    rw [upd_ne (show b ≠ p from fun e => hL (by rw [← e]; exact List.mem_of_getElem? e1))]; exact hz
  · refine ROb.mono (List.prefix_refl _) (Same.refl G) (fun z => z) (fun z hz => ?_) (f.obM k b q e1 e2)
    rw [upd_ne (show b ≠ p from fun e => hM (by rw [← e]; exact List.mem_of_getElem? e1))]; exact hz
end
theorem compD_noexn {g : TgM} {tests : EM Bool} {elt : EM Rv} {ρ : Vn} {z : Exn} {T' S' : Sto} : ∀ {ds : List D} {T S : Sto}, compD g tests elt ρ ds T S ≠ .exn z T' S'
  | [], T, S => fun h => by cases h
  | d :: ds, T, S => fun h => by
    unfold compD at h
    split at h
    · split at h
      · split at h
        · split at h
          · rename_i d' T3 _
            cases ec : compD g tests elt ρ ds T3 _ with
            | ok rs T6 S6 => rw [ec] at h; cases h
            | exn z2 T6 S6 => exact compD_noexn ec
            | bad => rw [ec] at h; cases h
          · cases h
        · cases h
      · exact compD_noexn h
      · cases h
    · cases h
abbrev W0 : WX := fun _ _ _ _ => False
section
variable {ct : Str → Option Addr} {X : Cx} [WC X.K] {W : WX} {g : TgM} {tests : EM Bool} {elt : EM Rv} {vs js : List Nat} {own : Bool}
/-- what stands between two turns -/
def CompI (ct : Str → Option Addr) (K : PySem.W.Frag) [WC K] (W : WX) (own : Bool) (g : TgM) (tests : EM Bool) (elt : EM Rv) (ρ : Vn) (σ : L2.St) (Q : VK) (ds : List D) (G1 H1 : Hp) (L1 M1 : List Addr) (p : Addr) (i : Nat) (H : Hp) : Prop :=
  ∃ G L M T S acc accD, i ≤ ds.length ∧ Ext G1 H1 L1 M1 G H L M ∧ Fits K G H L M T S ∧ H p = some (.lst acc) ∧ G p = none ∧ p ∉ L ∧ p ∉ M ∧ Reps K G acc accD ∧
    Sat ct K W G1 H1 L1 M1 σ (RepR K) Q ((compD g tests elt ρ (ds.drop i) T S).bind fun rs T S => newL own (accD ++ rs) T S)
theorem ext_out {G H G' H' : Hp} {L M L' M' : List Addr} {p : Addr} {o : HO} (x : Ext G H L M G' H' L' M') (hp : H p = some o) (ho : ∀ ps, o ≠ .tbl ps) (hg : G p = none) (hL : p ∉ L) (hM : p ∉ M) (ho2 : ∀ xs, o ≠ .tup xs := by intro _ z; cases z) : H' p = some o ∧ G' p = none ∧ p ∉ L' ∧ p ∉ M' := by
  refine ⟨x.keep p o hp ho hL hM, ?_, fun z => (x.ln p z).elim hL fun q => q.no hp ho, fun z => (x.mn p z).elim hM fun q => q.no hp ho⟩
  cases e : G' p with
  | none => rfl
  | some u =>
    rcases x.gn p u e with q | q | q | ⟨_, xs, q⟩
    · rw [hg] at q; cases q
    · exact (q.no hp ho).elim
    · exact (hM q).elim
    · exact (ho2 xs (Option.some.inj (hp.symm.trans q))).elim
theorem newL_len {ds : List D} {T S : Sto} {G H : Hp} {L M : List Addr} {σ : L2.St} {Q : VK} {K : PySem.W.Frag} [WC K] (h : Sat ct K W G H L M σ (RepR K) Q (newL own ds T S)) : ds.length ≤ 16777216 := by
  unfold newL at h
  split at h
  · assumption
  · exact (show False from h).elim
theorem comp_ok {wi : TI} {m : EM (List D)} {tg iter : Expr} (hj : ∀ i, i ∈ js → i ∈ vs)
    (qi : ∀ (ρ : Vn) (T S : Sto) (G H : Hp) (L M : List Addr) (σ : L2.St) (R : It → Hp → Prop), Fits X.K G H L M T S → Sl X.K G L M ρ σ → Sat ct X.K W G H L M σ (relI X.K) R (m ρ T S) → wi σ H R)
    (ρ : Vn) (T S : Sto) (G H : Hp) (L M : List Addr) (σ : L2.St) (Q : VK) (hl : ρ.length = σ.length) (f : Fits X.K G H L M T S) (sl : Slots X.K G L M ρ σ) (h : Sat ct X.K W G H L M σ (RepR X.K) Q (lcM own m g tests elt vs ρ T S)) :
    tLc wi (tOfG X.K js g) (tOfT ct X.K W0 tests) (tOfE ct X.K W0 elt) vs σ H Q := by
  refine qi ρ T S G H L M σ _ f ⟨hl, sl⟩ (Sat.bind h fun ds T1 S1 G1 H1 L1 M1 J e1 f1 wk h1 => ?_)
  intro p hp
  have sw : Sl X.K G1 L1 M1 (wipeV ρ vs) (wipe σ vs) := wipe_sl ⟨hl, sl.mono e1⟩ vs
  have npL : p ∉ L1 := fun z => by
    obtain ⟨n, hn⟩ := List.mem_iff_getElem?.mp z
    obtain ⟨u, hu⟩ := ROb.held (f1.obL n p _ hn (List.getElem?_eq_getElem (show n < S1.length by rw [← f1.lenL]; exact lt_of_get hn)))
    rw [hp] at hu; cases hu
  have npM : p ∉ M1 := fun z => by
    obtain ⟨n, hn⟩ := List.mem_iff_getElem?.mp z
    obtain ⟨u, hu⟩ := ROb.held (f1.obM n p _ hn (List.getElem?_eq_getElem (show n < T1.length by rw [← f1.lenM]; exact lt_of_get hn)))
    rw [hp] at hu; cases hu
  have s1 : Same H1 (upd H1 p (.lst [])) := fun a u q => by rw [upd_ne (ne_of_none q hp)]; exact q
  obtain ⟨x0, f0⟩ := f1.kept s1 (tbl_new (fun _ z => by cases z))
  refine ⟨fun i n H' => n = ds.length - i ∧ CompI ct X.K W own g tests elt (wipeV ρ vs) σ Q ds G1 H1 L1 M1 p i H',
    ⟨ds.length, by simp, G1, L1, M1, T1, S1, [], [], Nat.zero_le _, x0, f0, upd_same, f1.sub.free hp, npL, npM, .nil, by simpa using h1⟩, ?_⟩
  rintro i n H' ⟨rfl, G', L', M', T', S', acc, accD, hi, e', f', hacc, hg, hL, hM, hr, h'⟩
  by_cases hlt : i < ds.length
  · rw [List.drop_eq_getElem_cons hlt] at h'
    have hd : ds[i]? = some ds[i] := List.getElem?_eq_getElem hlt
    obtain ⟨go, yl⟩ := wk.1 i G' H' _ e'.gm f'.sub hd
    refine .inr ⟨go, CompI ct X.K W own g tests elt (wipeV ρ vs) σ Q ds G1 H1 L1 M1 p (i + 1), fun H2 q => ⟨ds.length - (i + 1), by omega, rfl, q⟩, fun x H2 hy => ?_⟩
    have go2 : ∀ G2, Ext G' H' L' M' G2 H2 L' M' → Fits X.K G2 H2 L' M' T' S' → Rep X.K G2 x ds[i] → tOfG X.K js g x (wipe σ vs) H2 fun σ2 H2 => wipe σ2 vs = wipe σ vs ∧ tOfT ct X.K W0 tests σ2 H2 fun b H3 =>
        if b = true then tOfE ct X.K W0 elt σ2 H3 fun y H4 => ∃ acc, H4 p = some (.lst acc) ∧ acc.length < sizeLine ∧ CompI ct X.K W own g tests elt (wipeV ρ vs) σ Q ds G1 H1 L1 M1 p (i + 1) (upd H4 p (.lst (acc ++ [y]))) else CompI ct X.K W own g tests elt (wipeV ρ vs) σ Q ds G1 H1 L1 M1 p (i + 1) H3 := fun G2 x2 f2 r2 => by
      unfold compD at h'
      split at h'
      · rename_i ρ2 eg
        refine ⟨ds[i], wipeV ρ vs, ρ2, G2, L', M', f2.sub, sw.mono (e'.trans x2), r2, eg, fun σ2 sl2 k2 l2 => ⟨wipe_again (by rw [l2, wipe_length]) hj k2, ?_⟩⟩
        refine ⟨ρ2, T', S', G2, L', M', sl2.1, f2, sl2.2, ?_⟩
        split at h'
        · rename_i T3 S3 et
          rw [et]
          intro G3 H3 L3 M3 b x3 f3 hb
          cases hb
          rw [if_pos rfl]
          refine ⟨ρ2, T3, S3, G3, L3, M3, sl2.1, f3, sl2.2.mono x3, ?_⟩
          split at h'
          · rename_i r T4 S4 ee
            rw [ee]
            intro G4 H4 L4 M4 y x4 f4 r4
            split at h'
            · rename_i d' T5 ed
              obtain ⟨G5, x5, f5, r5⟩ := toD_ok f4 r4 ed
              have xx := ((x2.trans x3).trans x4).trans x5
              obtain ⟨a1, a2, a3, a4⟩ := ext_out xx hacc (fun _ z => by cases z) hg hL hM
              have hlen : acc.length < sizeLine := by
                rw [hr.length]
                have h5 := h'
                cases ec : compD g tests elt (wipeV ρ vs) (List.drop (i + 1) ds) T5 S4 with
                | ok rs T6 S6 =>
                  rw [ec] at h5
                  have h6 := newL_len (T := T6) (S := S6) h5
                  rw [List.length_append, List.length_cons] at h6
                  rw [sizeLine_eq]
                  omega
                | exn z T6 S6 =>
                  rw [ec] at h5
                  exact absurd ec (by
                    intro ec
                    exact compD_noexn ec)
                | bad => rw [ec] at h5; exact (show False from h5).elim
              refine ⟨acc, a1, hlen, ?_⟩
              obtain ⟨x6, f6⟩ := f5.grow (u := .lst (acc ++ [y])) (fun _ z => by cases z) (e'.trans xx) hp a1 a2 a3 a4
              refine ⟨G5, L4, M4, T5, S4, acc ++ [y], accD ++ [d'], hlt, x6, f6, upd_same, a2, a3, a4, (hr.mono xx.gm).append (.cons r5 .nil), ?_⟩
              have e9 : ((compD g tests elt (wipeV ρ vs) (List.drop (i + 1) ds) T5 S4).bind fun rs T S => newL own (accD ++ [d'] ++ rs) T S) = (((compD g tests elt (wipeV ρ vs) (List.drop (i + 1) ds) T5 S4).bind fun rs T S => Res.ok (d' :: rs) T S).bind fun rs T S => newL own (accD ++ rs) T S) := by
                cases compD g tests elt (wipeV ρ vs) (List.drop (i + 1) ds) T5 S4 with
                | ok rs T6 S6 => simp
                | exn z T6 S6 => rfl
                | bad => rfl
              rw [e9]
              exact h'
            · exact (show False from h').elim
          · exact (show False from h').elim
        · rename_i T3 S3 et
          rw [et]
          intro G3 H3 L3 M3 b x3 f3 hb
          cases hb
          rw [if_neg Bool.false_ne_true]
          obtain ⟨a1, a2, a3, a4⟩ := ext_out (x2.trans x3) hacc (fun _ z => by cases z) hg hL hM
          exact ⟨G3, L3, M3, T3, S3, acc, accD, hlt, (e'.trans x2).trans x3, f3, a1, a2, a3, a4, hr.mono (x2.trans x3).gm, h'⟩
        · exact (show False from h').elim
      · exact (show False from h').elim
    rcases yl x H2 hy with ⟨rfl, r2⟩ | ⟨q, ws, hq, rfl, r2⟩
    · exact go2 G' (Ext.refl _ _ _ _) f' r2
    · obtain ⟨x3, f3⟩ := f'.new (o := .tup ws) hq (fun _ z => by cases z)
      exact go2 _ x3 f3 r2
  · have e : i = ds.length := by omega
    subst e
    rw [List.drop_length] at h'
    refine .inl ⟨wk.2 _ G' H' e'.gm f'.sub (Nat.le_refl _), ?_⟩
    have h2 : Sat ct X.K W G1 H1 L1 M1 σ (RepR X.K) Q (newL own (accD ++ []) T' S') := h'
    rw [List.append_nil] at h2
    have hz := newL_len h2
    unfold newL at h2
    rw [if_pos hz] at h2
    obtain ⟨⟨b1, b2, b3⟩, c1, c2⟩ := f'.adopt e' hp hacc hg hL hM hr
    cases own with
    | false =>
      rw [if_neg Bool.false_ne_true] at h2
      exact h2 _ _ _ _ _ b1 b2 b3
    | true =>
      rw [if_pos rfl] at h2
      refine h2 _ _ _ _ _ c1 c2 ⟨p, ?_, rfl⟩
      rw [← f'.lenM, List.getElem?_append_right (Nat.le_refl _), Nat.sub_self]
      rfl
end
end RB
end
/-! text RFun -/
section
set_option Elab.async false
set_option linter.all false
set_option maxRecDepth 100000
set_option maxHeartbeats 4000000
/-! RFun: comprehensions as expressions, functions, calls, methods. -/
namespace RB
open PySem PySem.Spec PyProof.Rows L2
section
variable {ct : Str → Option Addr} {X : Cx} [WC X.K] {W : WX} {g : TgM} {tests : EM Bool} {elt : EM Rv} {js : List Nat} {m : EM (List D)} {e tg iter : Expr} {ifs : List Expr} {scope : Scope} {pos : Pos}
theorem se_lc (own : Bool) {ow : List (Str × Nat)} (hc : X.calm = true) (hN : X.N.Nodup) (hi : SI ct X W tg iter m) (ok : BlkOk X.N X.env.scope scope ow) (hj : ∀ i, i ∈ js → i ∈ ow.map (·.2))
    (hg : ∀ (s : Shared) (H : Hp) (C : Addr) (cl : List (Str × Addr)) (fp : List Addr), SG (X.blk s H scope (compEnvC scope cl C X.env) fp) tg js g)
    (ht : ∀ (s : Shared) (H : Hp) (C : Addr) (cl : List (Str × Addr)) (fp : List Addr), STs ct (X.blk s H scope (compEnvC scope cl C X.env) fp) W0 ifs tests)
    (he : ∀ (s : Shared) (H : Hp) (C : Addr) (cl : List (Str × Addr)) (fp : List Addr), SE ct (X.blk s H scope (compEnvC scope cl C X.env) fp) W0 e elt) (hs : ∀ x, foldedSetIterable iter X.env x = pure x) :
    SE ct X W (.ListComp e [⟨tg, iter, ifs, 0⟩] scope pos) (lcM own m g tests elt (ow.map (·.2))) := by
  obtain ⟨wi, pi, qi⟩ := hi
  exact ⟨_, pe_lc (g := tOfG X.K js g) (tt := tOfT ct X.K W0 tests) (te := tOfE ct X.K W0 elt) hc hN pi ok (fun s H C cl fp => (hg s H C cl fp).canon) (fun s H C cl fp => ht s H C cl fp) (fun s H C cl fp => (he s H C cl fp).canon) hs, comp_ok (tg := tg) (iter := iter) hj qi⟩
end
/-! ### functions -/
inductive FRes where
  | ok (r : Rv) (S : Sto)
  | exn (x : Exn) (S : Sto)
  | bad
abbrev FM := List Rv → Sto → FRes
/-- the promise of a def that denotes f -/
def spF (ct : Str → Option Addr) (K : PySem.W.Frag) [WC K] (n : Nat) (f : FM) : Sp := fun vs H Q E => vs.length = n ∧ ∃ G L S rs, Fits K G H L [] [] S ∧ RepRs K G L [] vs rs ∧ match f rs S with
  | .ok r S' => ∀ G' H' L' x, Ext G H L [] G' H' L' [] → Fits K G' H' L' [] [] S' → RepR K G' L' [] x r → Q x H'
  | .exn e S' => ∀ G' H' L' c d, Ext G H L [] G' H' L' [] → Fits K G' H' L' [] [] S' → RepX ct K G' H' c d e → E c d H'
  | .bad => False
def obDic (o : Option Ob) : Option (List (Key × D)) := match o with
  | some (.dic kvs) => some kvs
  | some (.frd kvs) => some kvs
  | some (.lkd kvs) => some kvs
  | _ => none
/-- what a def of n names does, by its body -/
def retR (r : Rv) (T S : Sto) : FRes := match r with
  | .own k => (match obList T[k]? with
    | some xs => .ok (.v (.list xs)) S
    | none => .bad)
  | r => .ok r S
def fnM (n : Nat) (m : SM) : FM := fun rs S => match m (rs.map some ++ List.replicate (n - rs.length) none) [] S with
  | .ret r T S' => retR r T S'
  | .next _ _ S' => .ok (.v .none) S'
  | .exn x _ _ S' => .exn x S'
  | _ => .bad
section
variable {K : PySem.W.Frag} [WC K] {G H G' H' : Hp} {L M L' M' : List Addr} {T S T' S' : Sto}
theorem Fits.dropM (f : Fits K G H L M T S) : Fits K G H L [] [] S :=
  ⟨f.sub, by rw [List.append_nil]; exact f.ndL, f.lenL, rfl, f.obL, fun n a o e => by simp at e, f.tbs⟩
theorem Ext.dropM (x : Ext G H L [] G' H' L' M') : Ext G H L [] G' H' L' [] :=
  ⟨x.gm, x.lp, List.prefix_refl _, x.keep, x.dom, x.gn, x.ln, fun a h => .inl h⟩
theorem RepR.dropM {x : V} {r : Rv} (h : RepR K G L M x r) (hn : ∀ k, r ≠ .own k) : RepR K G L [] x r := by
  cases r with
  | v d => exact h
  | loc n => exact h
  | own n => exact (hn n rfl).elim
  | scr ns => exact h
  | frd kvs => exact h
  | fdt kvs => exact h
  | frk kvs => exact h
  | prd kvs d => exact h
  | glo nm => exact h
theorem start_sl {N : List Str} {vs : List V} {rs : List Rv} (h : RepRs K G L [] vs rs) : Sl K G L [] (rs.map some ++ List.replicate (N.length - rs.length) none) (L2.start N vs) := by
  have hl := h.length
  refine ⟨by unfold L2.start; simp only [List.length_append, List.length_map, List.length_replicate]; omega, ?_⟩
  intro i r hi
  unfold L2.start
  have : ∀ {vs : List V} {rs : List Rv}, RepRs K G L [] vs rs → ∀ (i : Nat) (r : Rv), rs[i]? = some r → ∃ x, vs[i]? = some x ∧ RepR K G L [] x r := by
    intro vs rs h
    induction h with
    | nil => intro i r e; simp at e
    | cons h1 h2 ih =>
      intro i r e
      cases i with
      | zero => simp at e; subst e; exact ⟨_, rfl, h1⟩
      | succ i => exact ih i r (by simpa using e)
  by_cases hlt : i < rs.length
  · rw [List.getElem?_append_left (by simpa using hlt), List.getElem?_map] at hi
    cases e : rs[i]? with
    | none => rw [e] at hi; cases hi
    | some r' =>
      rw [e] at hi; cases hi
      obtain ⟨x, hx, rx⟩ := this h i r e
      exact ⟨x, by rw [List.getElem?_append_left (by simpa using (show i < vs.length by omega)), List.getElem?_map, hx]; rfl, rx⟩
  · rw [List.getElem?_append_right (by simpa using hlt), List.getElem?_replicate] at hi
    split at hi <;> cases hi
end
section
variable {P : Program} {w : World} {K : PySem.W.Frag} [WC K] {mg : Str → Option Value} {base : Heap} {ct : Str → Option Addr}
abbrev WEx (E : XK) : WX := fun c d _ H => E c d H
/-- what a def's end asks of its body -/
theorem fnM_sat {G H : Hp} {L : List Addr} {S0 : Sto} {rs : List Rv} {n : Nat} {m : SM} {Q : VK} {E : XK} (h : match fnM n m rs S0 with
  | .ok r S' => ∀ G' H' L' x, Ext G H L [] G' H' L' [] → Fits K G' H' L' [] [] S' → RepR K G' L' [] x r → Q x H'
  | .exn e S' => ∀ G' H' L' c d, Ext G H L [] G' H' L' [] → Fits K G' H' L' [] [] S' → RepX ct K G' H' c d e → E c d H'
  | .bad => False) : SatS ct K (WEx E) G H L [] { nx := fun _ H' => Q .non H', rt := Q } (m (rs.map some ++ List.replicate (n - rs.length) none) [] S0) := by
  unfold fnM at h
  cases e : m (rs.map some ++ List.replicate (n - rs.length) none) [] S0 with
  | next ρ' T' S' =>
    rw [e] at h
    exact fun G' H' L' M' σ' x f' _ => h G' H' L' .non x.dropM f'.dropM .non
  | ret r T' S' =>
    rw [e] at h
    intro G' H' L' M' x x1 f1 r1
    cases r with
    | v d => exact h G' H' L' x x1.dropM f1.dropM r1
    | loc n => exact h G' H' L' x x1.dropM f1.dropM r1
    | scr ns => exact h G' H' L' x x1.dropM f1.dropM r1
    | frd kvs => exact h G' H' L' x x1.dropM f1.dropM r1
    | fdt kvs => exact h G' H' L' x x1.dropM f1.dropM r1
    | frk kvs => exact h G' H' L' x x1.dropM f1.dropM r1
    | prd kvs d => exact h G' H' L' x x1.dropM f1.dropM r1
    | glo nm => exact h G' H' L' x x1.dropM f1.dropM r1
    | own k =>
      obtain ⟨a, ha, rfl⟩ := r1
      have h : match (match obList T'[k]? with | some xs => FRes.ok (.v (.list xs)) S' | none => .bad) with
        | .ok r S' => ∀ G' H' L' x, Ext G H L [] G' H' L' [] → Fits K G' H' L' [] [] S' → RepR K G' L' [] x r → Q x H'
        | .exn e S' => ∀ G' H' L' c d, Ext G H L [] G' H' L' [] → Fits K G' H' L' [] [] S' → RepX ct K G' H' c d e → E c d H'
        | .bad => False := h
      cases et : T'[k]? with
      | none => rw [et] at h; exact h.elim
      | some o =>
        rw [et] at h
        have ob := f1.obM k a o ha et
        cases o with
        | lst xs =>
          obtain ⟨vs2, b1, b2, b3⟩ := ob
          obtain ⟨x2, f2⟩ := f1.freeze ha b1 b2 b3
          exact h _ H' L' _ (x1.trans x2).dropM f2.dropM (show Rep K _ (.ref a) (.list xs) from .lst upd_same (b3.mono x2.gm))
        | frz xs =>
          obtain ⟨vs2, b1, b2, b3⟩ := ob
          exact h G' H' L' _ x1.dropM f1.dropM (show Rep K _ (.ref a) (.list xs) from .lst b2 b3)
        | dic kvs => exact h.elim
        | frd kvs => exact h.elim
        | lkd kvs => exact h.elim
        | dit kvs => exact h.elim
        | fdt kvs => exact h.elim
        | dnt kvs => exact h.elim
        | ins cls fs => exact h.elim
        | rls rs => exact h.elim
        | rdc kvs => exact h.elim
  | brk ρ' T' S' => rw [e] at h; exact h.elim
  | cnt ρ' T' S' => rw [e] at h; exact h.elim
  | exn z ρ' T' S' =>
    rw [e] at h
    exact fun G' H' L' M' σ' c d x f' _ rx => h G' H' L' c d x.dropM f'.dropM rx
  | bad => rw [e] at h; exact h.elim
end
/-- arguments: a list of one's own is handed on for good -/
def toA (r : Rv) (T : Sto) : Option (Rv × Sto) := match r with
  | .own n => (match T[n]? with
    | some (.lst xs) => some (.v (.list xs), T.set n (.frz xs))
    | some (.frz xs) => some (.v (.list xs), T)
    | some (.dic kvs) => some (.frd kvs, T.set n (.frd kvs))
    | some (.frd kvs) => some (.frd kvs, T)
    | some (.dit kvs) => some (.fdt kvs, T.set n (.fdt kvs))
    | some (.fdt kvs) => some (.fdt kvs, T)
    | _ => none)
  | r => some (r, T)
def toAs : List Rv → Sto → Option (List Rv × Sto)
  | [], T => some ([], T)
  | r :: rs, T => match toA r T with
    | some (d, T1) => (match toAs rs T1 with
      | some (ds, T2) => some (d :: ds, T2)
      | none => none)
    | none => none
def callF (f : FM) (rs : List Rv) (T S : Sto) : Res Rv := match toAs rs T with
  | some (as, T') => (match f as S with
    | .ok r S' => .ok r T' S'
    | .exn x S' => .exn x T' S'
    | .bad => .bad)
  | none => .bad
section
variable {K : PySem.W.Frag} [WC K] {G H : Hp} {L M : List Addr} {T S : Sto}
theorem toA_ok {x : V} {r r' : Rv} {T' : Sto} (f : Fits K G H L M T S) (h : RepR K G L M x r) (e : toA r T = some (r', T')) :
    ∃ G', Ext G H L M G' H L M ∧ Fits K G' H L M T' S ∧ RepR K G' L [] x r' := by
  cases r with
  | v d => cases e; exact ⟨G, Ext.refl _ _ _ _, f, h⟩
  | loc n => cases e; exact ⟨G, Ext.refl _ _ _ _, f, h⟩
  | scr ns => cases e; exact ⟨G, Ext.refl _ _ _ _, f, h⟩
  | frd kvs => cases e; exact ⟨G, Ext.refl _ _ _ _, f, h⟩
  | fdt kvs => cases e; exact ⟨G, Ext.refl _ _ _ _, f, h⟩
  | frk kvs => cases e; exact ⟨G, Ext.refl _ _ _ _, f, h⟩
  | prd kvs d => cases e; exact ⟨G, Ext.refl _ _ _ _, f, h⟩
  | glo nm => cases e; exact ⟨G, Ext.refl _ _ _ _, f, h⟩
  | own n =>
    obtain ⟨a, ha, rfl⟩ := h
    unfold toA at e
    simp only at e
    split at e
    · rename_i xs q
      cases e
      obtain ⟨vs, h1, h2, h3⟩ := f.obM n a _ ha q
      obtain ⟨e', f'⟩ := f.freeze ha h1 h2 h3
      exact ⟨_, e', f', show Rep K _ (.ref a) (.list xs) from .lst upd_same (h3.mono e'.gm)⟩
    · rename_i xs q
      cases e
      obtain ⟨vs, h1, h2, h3⟩ := f.obM n a _ ha q
      exact ⟨G, Ext.refl _ _ _ _, f, show Rep K _ (.ref a) (.list xs) from .lst h2 h3⟩
    · rename_i kvs q
      cases e
      obtain ⟨ws, h1, h2, h3, h4⟩ := f.obM n a _ ha q
      obtain ⟨e', f'⟩ := f.freezeD ha h1 h2 h3 h4
      exact ⟨_, e', f', ⟨a, ws, rfl, upd_same, h3, h4.mono e'.gm⟩⟩
    · rename_i kvs q
      cases e
      obtain ⟨ws, h1, h2, h3, h4⟩ := f.obM n a _ ha q
      exact ⟨G, Ext.refl _ _ _ _, f, ⟨a, ws, rfl, h2, h3, h4⟩⟩
    · rename_i kvs q
      cases e
      obtain ⟨ws, h1, h2, h3, h4⟩ := f.obM n a _ ha q
      obtain ⟨e', f'⟩ := f.freezeT ha h1 h2 h3 h4
      exact ⟨_, e', f', ⟨a, ws, rfl, upd_same, h3, h4.mono e'.gm⟩⟩
    · rename_i kvs q
      cases e
      obtain ⟨ws, h1, h2, h3, h4⟩ := f.obM n a _ ha q
      exact ⟨G, Ext.refl _ _ _ _, f, ⟨a, ws, rfl, h2, h3, h4⟩⟩
    · cases e
theorem toAs_ok : ∀ {xs : List V} {rs as : List Rv} {G : Hp} {T T' : Sto}, Fits K G H L M T S → RepRs K G L M xs rs → toAs rs T = some (as, T') →
    ∃ G', Ext G H L M G' H L M ∧ Fits K G' H L M T' S ∧ RepRs K G' L [] xs as
  | _, _, _, G, T, _, f, .nil, e => by cases e; exact ⟨G, Ext.refl _ _ _ _, f, .nil⟩
  | _, _, _, G, T, T', f, .cons (r := r) (rs := rs) h hs, e => by
    unfold toAs at e
    split at e
    · rename_i d T1 e1
      split at e
      · rename_i ds T2 e2
        cases e
        obtain ⟨G1, x1, f1, r1⟩ := toA_ok f h e1
        obtain ⟨G2, x2, f2, r2⟩ := toAs_ok f1 (hs.mono x1) e2
        exact ⟨G2, x1.trans x2, f2, .cons (r1.monoL x2.gm (List.prefix_refl _) (List.prefix_refl _)) r2⟩
      · cases e
    · cases e
theorem Fits.back {G' H' : Hp} {L' : List Addr} {S' : Sto} (f : Fits K G H L M T S) (x : Ext G H L [] G' H' L' []) (f' : Fits K G' H' L' [] [] S') : Ext G H L M G' H' L' M ∧ Fits K G' H' L' M T S' := by
  have out : ∀ a, a ∈ M → ∃ u, H a = some u ∧ (∀ ps, u ≠ .tbl ps) ∧ a ∉ L := fun a ha => by
    obtain ⟨n, hn⟩ := List.mem_iff_getElem?.mp ha
    obtain ⟨u, hu, nt, _⟩ := ROb.plain (f.obM n a _ hn (List.getElem?_eq_getElem (show n < T.length by rw [← f.lenM]; exact lt_of_get hn)))
    exact ⟨u, hu, nt, fun z => f.apart z ha⟩
  refine ⟨⟨x.gm, x.lp, List.prefix_refl _, fun a o h nt hl _ => x.keep a o h nt hl (by simp), x.dom, fun a o h => (x.gn a o h).elim .inl fun z => .inr (z.elim .inl fun q => q.elim (fun q => by simp at q) fun q => .inr (.inr q)), x.ln, fun a h => .inl h⟩,
    ⟨f'.sub, List.nodup_append.mpr ⟨f'.ndL, f.ndM, fun a ha b hb e => ?_⟩, f'.lenL, f.lenM, f'.obL, fun n a o e1 e2 => ?_, f'.tbs⟩⟩
  · subst e
    obtain ⟨u, hu, nt, hn⟩ := out a hb
    rcases x.ln a ha with z | z
    · exact hn z
    · exact z.no hu nt
  · obtain ⟨u, hu, nt, hn⟩ := out a (List.mem_of_getElem? e1)
    refine ROb.mono x.lp x.gm (fun z => ?_) (fun z hz => x.keep a z hz (by obtain ⟨u0, h0, n1, _⟩ := ROb.plain (f.obM n a o e1 e2); rw [h0] at hz; cases hz; exact n1) hn (by simp)) (f.obM n a o e1 e2)
    cases q : G' a with
    | none => rfl
    | some y =>
      rcases x.gn a y q with q2 | q2 | q2 | ⟨_, xs, q2⟩
      · rw [z] at q2; cases q2
      · exact (q2.no hu nt).elim
      · simp at q2
      · exact ((f.obM n a o e1 e2).noTup q2).elim
end
section
variable {ct : Str → Option Addr} {X : Cx} [WC X.K] {W : WX} {x : Str} {p pos : Pos} {e : Expr} {es : List Expr} {ms : EM (List Rv)} {k : Nat} {f : Addr} {fd : FuncData} {ps : List Str} {fm : FM}
theorem callF_ok {t : TA}
    (ha : ∀ (ρ : Vn) (T S : Sto) (G H : Hp) (L M : List Addr) (σ : L2.St) (Q : List V → Hp → Prop), ρ.length = σ.length → Fits X.K G H L M T S → Slots X.K G L M ρ σ → Sat ct X.K W G H L M σ (RepRs X.K) Q (ms ρ T S) → t σ H Q) {n : Nat}
    (ρ : Vn) (T S : Sto) (G H : Hp) (L M : List Addr) (σ : L2.St) (Q : VK) (hl : ρ.length = σ.length) (f : Fits X.K G H L M T S) (sl : Slots X.K G L M ρ σ) (hn : ∀ rs T' S', ms ρ T S = .ok rs T' S' → rs.length = n)
    (h : Sat ct X.K W G H L M σ (RepR X.K) Q (callM (callF fm) ms ρ T S)) : tCallS (spF ct X.K n fm) (WE W) t σ H Q := by
  have hn' := hn
  refine ha ρ T S G H L M σ _ hl f sl ?_
  unfold callM at h
  cases e : ms ρ T S with
  | ok rs T1 S1 =>
    rw [e] at h
    intro G1 H1 L1 M1 xs e1 f1 r1
    have h1 := Sat.pre e1 h
    have h1 : Sat ct X.K W G1 H1 L1 M1 σ (RepR X.K) Q (callF fm rs T1 S1) := h1
    unfold callF at h1
    split at h1
    · rename_i as T' ea
      obtain ⟨G2, x2, f2, r2⟩ := toAs_ok f1 r1 ea
      refine ⟨by rw [r1.length]; exact hn rs T1 S1 e, G2, L1, S1, as, f2.dropM, r2, ?_⟩
      split
      · rename_i r S' ef
        rw [ef] at h1
        intro G3 H3 L3 y x3 f3 r3
        obtain ⟨x4, f4⟩ := f2.back x3 f3
        exact h1 G3 H3 L3 M1 y (x2.trans x4) f4 (r3.monoL (Same.refl _) (List.prefix_refl _) ⟨M1, rfl⟩)
      · rename_i z S' ef
        rw [ef] at h1
        intro G3 H3 L3 c d x3 f3 r3
        obtain ⟨x4, f4⟩ := f2.back x3 f3
        exact h1 G3 H3 L3 M1 c d (x2.trans x4) f4 r3
      · rename_i ef
        rw [ef] at h1
        exact h1
    · exact (show False from h1).elim
  | exn z T1 S1 => rw [e] at h; exact h
  | bad => rw [e] at h; exact h
/-- how many arguments there are -/
def SAn (ct : Str → Option Addr) (X : Cx) [WC X.K] (W : WX) (es : List Expr) (n : Nat) (m : EM (List Rv)) : Prop := SA ct X W es m ∧ ∀ ρ T S rs T' S', m ρ T S = .ok rs T' S' → rs.length = n
theorem san_nil : SAn ct X W [] 0 nilA := ⟨sa_nil, fun ρ T S rs T' S' h => by cases h; rfl⟩
theorem san_cons {me : EM Rv} {n : Nat} (h : SE ct X W e me) (hr : SAn ct X W es n ms) (hs : starEach (e :: es) X.env = (false, eval e X.env) :: starEach es X.env) : SAn ct X W (e :: es) (n + 1) (consA me ms) := by
  refine ⟨sa_cons h hr.1 hs, fun ρ T S rs T' S' h => ?_⟩
  unfold consA at h
  cases e1 : me ρ T S with
  | ok r T1 S1 =>
    rw [e1] at h
    have h : (ms ρ T1 S1).bind (fun rs T S => Res.ok (r :: rs) T S) = .ok rs T' S' := h
    cases e2 : ms ρ T1 S1 with
    | ok rs2 T2 S2 =>
      rw [e2] at h
      cases h
      rw [List.length_cons, hr.2 ρ T1 S1 rs2 _ _ e2]
    | exn z T2 S2 => rw [e2] at h; cases h
    | bad => rw [e2] at h; cases h
  | exn z T1 S1 => rw [e1] at h; cases h
  | bad => rw [e1] at h; cases h
theorem se_call {n : Nat} (F : FnOk X.prog X.w X.K X.mg X.base (L2.CX X.prog X.w) k f fd ps (spF ct X.K n fm)) (hr : Room k X.A) (tk : Takes X W) (hk : PySem.W.keepIn X.K (.ref f) = true) (hb : Binds X.K fd ps []) (hm : X.mg x = some (.ref f)) (hg : Gl X x)
    (ha : SAn ct X W (e :: es) n ms) (hdb : (x == ("__debug__" : Str)) = false) (he : starEach (e :: es) X.env = (false, eval e X.env) :: starEach es X.env) (hpl : (backTo pos (starEach es X.env)).any (·.1) = false) :
    SE ct X W (.Call (.Name x p) (e :: es) [] pos) (callM (callF fm) ms) := by
  obtain ⟨⟨t, pa, qa⟩, hn⟩ := ha
  exact ⟨_, pe_callS F hr hg hm hk hb (fun σ => passAt tk σ) pa hdb he hpl, fun ρ T S G H L M σ Q hl f sl h => callF_ok qa ρ T S G H L M σ Q hl f sl (fun rs T' S' q => hn ρ T S rs T' S' q) h⟩
end
/-! ### methods -/
def methM (ty : Rv → Sto → Sto → Bool) (o : Rv → List Rv → Sto → Sto → Res Rv) (mo : EM Rv) (ms : EM (List Rv)) : EM Rv := fun ρ T S => (mo ρ T S).bind fun r T S => if ty r T S = true then (ms ρ T S).bind fun rs T S => o r rs T S else .bad
def isL (r : Rv) (T S : Sto) : Bool := (lstOf r T S).isSome
def appendR (r : Rv) (rs : List Rv) (T S : Sto) : Res Rv := match r, rs with
  | .own n, [y] => (match toD y T with
    | some (d, T') => (match T'[n]? with
      | some (.lst xs) => if xs.length < 16777216 then .ok (.v .none) (T'.set n (.lst (xs ++ [d]))) S else .bad
      | _ => .bad)
    | none => .bad)
  | .loc n, [y] => (match toD y T with
    | some (d, T') => (match S[n]? with
      | some (.lst xs) => if xs.length < 16777216 then .ok (.v .none) T' (S.set n (.lst (xs ++ [d]))) else .bad
      | _ => .bad)
    | none => .bad)
  | _, _ => .bad
def extendR (r : Rv) (rs : List Rv) (T S : Sto) : Res Rv := match r, rs with
  | .own n, [y] => (match lstOf y T S with
    | some ys => (match T[n]? with
      | some (.lst xs) => if xs.length + ys.length ≤ 16777216 then .ok (.v .none) (T.set n (.lst (xs ++ ys))) S else .bad
      | _ => .bad)
    | none => .bad)
  | _, _ => .bad
section
variable {ct : Str → Option Addr} {X : Cx} [WC X.K] {W : WX} {o e : Expr} {es : List Expr} {mo : EM Rv} {ms : EM (List Rv)} {apos cpos : Pos}
theorem isL_ty {G H : Hp} {L M : List Addr} {T S : Sto} {x : V} {r : Rv} (f : Fits X.K G H L M T S) (h : RepR X.K G L M x r) (e : isL r T S = true) : tyV X.K "list" x H := by
  unfold isL at e
  cases q : lstOf r T S with
  | none => rw [q] at e; cases e
  | some ds =>
    obtain ⟨a, vs, rfl, h1, _⟩ := lstOf_ok f h q
    exact .inl ⟨rfl, vs, .inl (.inl h1)⟩
theorem lt_line {n : Nat} (h : n < 16777216) : n < sizeLine := by rw [sizeLine_eq]; exact h
theorem se_append (ho : SE ct X W o mo) (ha : SA ct X W (e :: es) ms)
    (hbase : attributeBase o "append" X.env (eval o X.env) = eval o X.env)
    (hfew : ((backTo cpos (starEach (e :: es) X.env)).all (fun x => !x.1) && (backToKw cpos (keywordEach [] X.env)).all (fun x => x.1.isSome) && decide ((e :: es).length + ([] : List Keyword).length + (if ([] : List Keyword).isEmpty then 0 else 1) < 30)) = true)
    (hline : (apos.endLine == cpos.line) = true) (hs : starEach (e :: es) X.env = (false, eval e X.env) :: starEach es X.env) (hplain : (backTo cpos (starEach es X.env)).any (·.1) = false) :
    SE ct X W (.Call (.Attribute o "append" apos) (e :: es) [] cpos) (methM isL appendR mo ms) := by
  obtain ⟨t, p, q⟩ := ho
  obtain ⟨ta, pa, qa⟩ := ha
  refine ⟨_, pe_bm PySem.F.plainAttrs_list PySem.F.slot_list_append PySem.F.type_list_append mt_append p pa hbase hfew hline hs hplain, fun ρ T S G H L M σ Q hl f sl h => ?_⟩
  refine q ρ T S G H L M σ _ hl f sl (Sat.bind h fun r T1 S1 G1 H1 L1 M1 x e1 f1 r1 h1 => ?_)
  split at h1
  · rename_i hty
    refine ⟨isL_ty f1 r1 hty, qa ρ T1 S1 G1 H1 L1 M1 σ _ hl f1 (sl.mono e1) (Sat.bind h1 fun rs T2 S2 G2 H2 L2 M2 xs e2 f2 r2 h2 => ?_)⟩
    unfold appendR at h2
    split at h2
    · rename_i n y
      split at h2
      · rename_i d T' ed
        split at h2
        · rename_i zs et
          split at h2
          · rename_i hz
            obtain ⟨v, rfl, rv⟩ := rs1 r2
            obtain ⟨G3, x3, f3, r3⟩ := toD_ok f2 rv ed
            obtain ⟨a, ha, rfl⟩ := r1.mono e2
            obtain ⟨vs, b1, b2, b3⟩ := f3.obM n a _ ha et
            obtain ⟨x4, f4⟩ := f3.setM (u := .lst (vs ++ [v])) (o := .lst (zs ++ [d])) ha b2 ⟨_, upd_same, b2, b3.append (.cons r3 .nil)⟩ (fun _ z => by cases z)
            exact ⟨a, vs, v, rfl, rfl, b1, by rw [b3.length]; exact lt_line hz, h2 _ _ _ _ _ (x3.trans x4) f4 (show Rep X.K _ _ _ from .non)⟩
          · exact (show False from h2).elim
        · exact (show False from h2).elim
      · exact (show False from h2).elim
    · rename_i n y
      split at h2
      · rename_i d T' ed
        split at h2
        · rename_i zs et
          split at h2
          · rename_i hz
            obtain ⟨v, rfl, rv⟩ := rs1 r2
            obtain ⟨G3, x3, f3, r3⟩ := toD_ok f2 rv ed
            obtain ⟨a, ha, rfl⟩ := r1.mono e2
            obtain ⟨vs, b1, b2, b3⟩ := f3.obL n a _ ha et
            obtain ⟨x4, f4⟩ := f3.setL (u := .lst (vs ++ [v])) (o := .lst (zs ++ [d])) ha b2 ⟨_, upd_same, b2, b3.append (.cons r3 .nil)⟩ (fun _ z => by cases z)
            exact ⟨a, vs, v, rfl, rfl, b1, by rw [b3.length]; exact lt_line hz, h2 _ _ _ _ _ (x3.trans x4) f4 (show Rep X.K _ _ _ from .non)⟩
          · exact (show False from h2).elim
        · exact (show False from h2).elim
      · exact (show False from h2).elim
    · exact (show False from h2).elim
  · exact (show False from h1).elim
end
end RB
end
/-! text RExc -/
section
set_option Elab.async false
set_option linter.all false
set_option maxRecDepth 100000
set_option maxHeartbeats 4000000
/-! RExc: an own exception over ValueError whose __init__ says super().__init__(a, b), self.a = a, self.b = b. -/
namespace RB
open PySem PySem.Spec PyProof.Rows L2
abbrev initBody (f1 f2 : Str) (q : Fin 15 → Pos) : List Stmt :=
  [.Expr (.Call (.Attribute (.Call (.Name "super" (q 0)) [] [] (q 1)) "__init__" (q 2)) [.Name f1 (q 3), .Name f2 (q 4)] [] (q 5)) (q 6),
   .Assign [.Attribute (.Name "self" (q 7)) f1 (q 8)] (.Name f1 (q 9)) (q 10),
   .Assign [.Attribute (.Name "self" (q 11)) f2 (q 12)] (.Name f2 (q 13)) (q 14)]
abbrev iniE0 (f1 f2 : Str) (q : Fin 15 → Pos) : Expr := .Call (.Attribute (.Call (.Name "super" (q 0)) [] [] (q 1)) "__init__" (q 2)) [.Name f1 (q 3), .Name f2 (q 4)] [] (q 5)
/-- what the places of its text are good for -/
def IniP (f1 f2 : Str) (q : Fin 15 → Pos) (ql : Str) (sc : Scope) : Prop := ∀ L fI cda cc : Addr,
  (∃ pl : Sem Bool, eval (iniE0 f1 f2 q) (PySem.W.ksEnv ql sc L fI (.ref cda) cc) = (do
      let ov ← attributeBase (.Call (.Name "super" (q 0)) [] [] (q 1)) "__init__" (PySem.W.ksEnv ql sc L fI (.ref cda) cc) (eval (.Call (.Name "super" (q 0)) [] [] (q 1)) (PySem.W.ksEnv ql sc L fI (.ref cda) cc))
      standAt (q 2).atName
      let (f, first) ← holding [ov] (getMethod ov "__init__" pl)
      callWith (q 5) f first (backTo (q 5) (starEach [.Name f1 (q 3), .Name f2 (q 4)] (PySem.W.ksEnv ql sc L fI (.ref cda) cc))) [])) ∧
  interactive (PySem.W.ksEnv ql sc L fI (.ref cda) cc) = false ∧
  swapsWith (iniE0 f1 f2 q) none (q 6).line (PySem.W.ksEnv ql sc L fI (.ref cda) cc) = pure false ∧
  swapsWith (.Name f1 (q 9)) (some (.Attribute (.Name "self" (q 7)) f1 (q 8))) (q 10).line (PySem.W.ksEnv ql sc L fI (.ref cda) cc) = pure false ∧
  swapsWith (.Name f2 (q 13)) (some (.Attribute (.Name "self" (q 11)) f2 (q 12))) (q 14).line (PySem.W.ksEnv ql sc L fI (.ref cda) cc) = pure false
/-- what the written part says of such a class -/
structure ExcW (prog : Program) (K : PySem.W.Frag) [WC K] (C fI : Addr) (f1 f2 : Str) (fd : FuncData) : Prop where
  fn : ∃ (oc : Value) (od : Option Addr) (osl : Array (Option Value)) (nm ql : Str) (params : Arguments) (sc : Scope) (cc cda : Addr) (q : Fin 15 → Pos) (dV kV doc pm ct : Value) (an : Option Addr),
    fd = PySem.W.ksFn nm ql params (initBody f1 f2 q) sc dV kV doc pm an (.ref cda) ct cc ∧ K.lookup fI = some ⟨oc, od, .func fd, osl⟩ ∧ PySem.W.codeIn K (.ref cda) ql = true ∧
    (∃ ar, (params.posonlyargs ++ params.args).head? = some ar ∧ ar.arg = "self") ∧
    (∃ (vs : Array Value) (file : Str) (tf : Tok) (c1 : Value) (d1 : Option Addr) (s1 : Array (Option Value)), K.lookup cda = some ⟨c1, d1, .fields vs, s1⟩ ∧ vs[2]? = some (.str file tf) ∧ ((prog.main.file : Str) == file) = true) ∧
    (∃ (c1 : Value) (d1 : Option Addr) (s1 : Array (Option Value)), K.lookup cc = some ⟨c1, d1, .cell (some (.ref C)), s1⟩) ∧
    sc.kind = .function ∧ sc.isCoroutine = false ∧ sc.isGenerator = false ∧ (∀ x ∈ sc.names, x.2 ≠ .cell) ∧ sc.names.lookup ("super" : Str) = some .globalImplicit ∧ sc.names.lookup ("__class__" : Str) = some .free ∧
    sc.names.lookup ("self" : Str) = some .local ∧ sc.names.lookup f1 = some .local ∧ sc.names.lookup f2 = some .local ∧ IniP f1 f2 q ql sc
  cls : OexC K C
  ns : ∃ cd, PySem.W.clsIn K C = some cd ∧ PySem.W.mroIn K C (.ref C) = some true ∧ PySem.W.ks_superIn K C C "__init__" = some (some (.builtin "ValueError.__init__")) ∧ PySem.W.subIn K (.ref C) (.type "ValueError") = some true
  op : PySem.W.nsIn K cStatics "thirdparty.any" = some none
  sup : PySem.W.nsIn K mainGlobals "super" = some none
  top : (prog.main.scope.names.lookup ("super" : Str)).isSome = false
  n1 : PySem.W.findIn K (.ref C) f1 = some none
  n2 : PySem.W.findIn K (.ref C) f2 = some none
  ini : PySem.W.findIn K (.ref C) "__init__" = some (some (.ref fI))
  ty : PySem.W.typeIn K (.ref fI) = some (.type "function")
  d12 : f1 ≠ f2
  ds1 : f1 ≠ "self"
  ds2 : f2 ≠ "self"
  b1 : (f1 == ("__debug__" : Str)) = false
  b2 : (f2 == ("__debug__" : Str)) = false
/-- what its __init__ promises -/
def spIni (C : Addr) (f1 f2 : Str) : Sp := fun vs H Q _ => ∃ (a : Addr) (y z : V), vs = [.ref a, y, z] ∧ H a = some (exo a C none) ∧ ∀ dx, H dx = none → dx ≠ a → Q .non (upd (upd H dx (exd dx [(f2, z), (f1, y)])) a (exo a C (some dx)))
theorem lk_cons {α : Type} (f g : Str) (y : α) (fs : List (Str × α)) : ((f, y) :: fs).lookup g = if g = f then some y else fs.lookup g := by
  by_cases h : g = f
  · subst h; simp [List.lookup]
  · have e : (g == f) = false := by simpa using h
    rw [if_neg h]; simp [List.lookup, e]
theorem ini_ok {P : Program} {w : World} {K : PySem.W.Frag} [WC K] {mg : Str → Option Value} {base : Heap} {CX : CXT} {k : Nat} {C fI : Addr} {f1 f2 : Str} {fd : FuncData} (T : ExcW P K C fI f1 f2 fd) : FnOk P w K mg base CX (k + 1) fI fd ["self", f1, f2] (spIni C f1 f2) := by
  refine ⟨fun vs H Q E h => by obtain ⟨a, y, z, rfl, _⟩ := h; rfl, fun A outer s H args us vs Q E hr e0 hb rv h => ?_⟩
  obtain ⟨a, y, z, rfl, ha, hq⟩ := h
  cases rv with
  | cons r0 rv =>
  cases rv with
  | cons r1 rv =>
  cases rv with
  | cons r2 rv =>
  cases rv
  rename_i u0 u1 u2
  obtain rfl : u0 = Value.ref a := r0
  have KX : K.In s.heap := e0.mod.kin.keeps fun b o e => (e0.bs b o e).1
  have lim : s.heap.NoLimit := e0.mod.nolimit.keeps fun b o e => (e0.bs b o e).1
  obtain ⟨t1, ho⟩ := exo_at e0.hok ha
  obtain ⟨mb, hbn, hbb⟩ := e0.mod.blt
  obtain ⟨oc, od, osl, nm, ql, params, sc, cc, cda, q, dV, kV, doc, pm, ct, an, rfl, lk, hcd, ⟨ar, hp, har⟩, ⟨vs2, file, tf, c1, d1, s1, hcode, hvs, hfile⟩, ⟨c2, d2, s2, hcell⟩, hkind, hco, hgen, hnc, hks, hkc, hk0, hk1, hk2, hplc⟩ := T.fn
  obtain ⟨cd, hcls, hmro, hsup, hsub⟩ := T.ns
  have v0 : (([("self", Value.ref a), (f1, u1), (f2, u2)] : List (Str × Value)).reverse).lookup ("self" : Str) = some (.ref a) := by
    show ([(f2, u2), (f1, u1), ("self", Value.ref a)] : List (Str × Value)).lookup ("self" : Str) = _
    rw [lk_cons, if_neg (Ne.symm T.ds2), lk_cons, if_neg (Ne.symm T.ds1), lk_cons, if_pos rfl]
  have v1 : (([("self", Value.ref a), (f1, u1), (f2, u2)] : List (Str × Value)).reverse).lookup f1 = some u1 := by
    show ([(f2, u2), (f1, u1), ("self", Value.ref a)] : List (Str × Value)).lookup f1 = _
    rw [lk_cons, if_neg T.d12, lk_cons, if_pos rfl]
  have v2 : (([("self", Value.ref a), (f1, u1), (f2, u2)] : List (Str × Value)).reverse).lookup f2 = some u2 := by
    show ([(f2, u2), (f1, u1), ("self", Value.ref a)] : List (Str × Value)).lookup f2 = _
    rw [lk_cons, if_pos rfl]
  refine PySem.ks_codeAny_call_defAt (body := initBody f1 f2 q) (binds := [("self", .ref a), (f1, u1), (f2, u2)]) hr.depth (KX _ _ lk) rfl lim (PySem.W.codeRec_of KX hcd) rfl hb hnc (fun x hx => ?_) (fun h0 hns hkp => ?_) hco hgen hkind
  · simp only [List.mem_cons, List.not_mem_nil, or_false] at hx
    rcases hx with rfl | rfl | rfl
    · exact hk0
    · exact hk1
    · exact hk2
  generalize hL : s.heap.objs.size = L at hns
  show PySem.wpAt (model P w) (A.deeper (PySem.W.ksEnv ql sc L fI (.ref cda) cc)) (.func (initBody f1 f2 q) (PySem.W.ksEnv ql sc L fI (.ref cda) cc)) (execs (initBody f1 f2 q) (PySem.W.ksEnv ql sc L fI (.ref cda) cc)) _ _ _
  obtain ⟨hp0, g, dr, tk, os⟩ := s
  dsimp only at *
  have X0 : K.In h0 := KX.keeps hkp
  have ho0 := hkp a _ ho
  have bk : ∀ b o, base.get? b = some o → h0.get? b = some o := fun b o e => hkp b o (e0.bs b o e).1
  obtain ⟨nmC, qC, NC, bs, bm, sn, sub, ab, col, dd, k0, k1, k2, k3, k5, hC, hbm⟩ := T.cls.cls
  have hD : ∃ oD, K.lookup C = some oD ∧ oD.data = .cls cd := by
    unfold PySem.W.clsIn at hcls
    split at hcls
    · rename_i ho; cases hcls; exact ⟨_, ho, rfl⟩
    · cases hcls
  obtain ⟨oD, hD1, hD2⟩ := hD
  have aL : a ≠ L := fun z => by
    have hlt := Heap.lt_size ho
    rw [z, ← hL] at hlt
    exact Nat.lt_irrefl _ hlt
  obtain ⟨⟨pl, he0⟩, hint, hs0, hs1, hs2⟩ := hplc L fI cda cc
  refine PySem.ks_wpAt_execs_cons (PySem.ks_wpAt_Expr_any (PySem.ks_wpAt_MethodCall (PySem.ks_wpAt_super_base hks hkc (by decide) rfl (X0 _ _ lk) rfl hp rfl (X0 _ _ hcode) rfl hvs hfile T.top ?_) he0) hint hs0)
  refine PySem.W.ks_loadName_global hkind hks (Calls.loadGlobal_builtin (e0.mod.glob.keeps bk) (PySem.W.mg_none_of e0.mod.kin e0.mod.glob T.sup) (hbn.keeps bk) ((hbb _ (by decide)).trans Boot.«super») ⟨rfl, ?_⟩)
  refine wpAny_loadName_free hkind hkc rfl ⟨_, X0 _ _ hcell, rfl⟩ ?_
  rw [har]
  refine wpAny_loadName_local hkind hk0 hns v0 ?_
  refine PySem.ks_wpAny_isType_cls (X0 _ _ hD1) hD2 ⟨rfl, ?_⟩
  refine PySem.ks_wpAny_call_super (X0 _ _ hD1) hD2 ho0 rfl (fun c e => by cases e) (PySem.W.looks_mroIn X0 hmro) (fun h1 e1 kp1 => ?_)
  have X1 : K.In h1 := X0.keeps kp1
  have I1 : PySem.W.InstAt h1 a _ C none := ⟨kp1 a _ ho0, rfl, rfl, trivial⟩
  have hal : PySem.W.alongIn K "__init__" ((cd.mro.dropWhile (· != .ref C)).drop 1) = some (some (.builtin "ValueError.__init__")) := by
    unfold PySem.W.ks_superIn at hsup
    rw [hcls] at hsup
    exact hsup
  refine PySem.W.kxs_getMethod PySem.W.kxs_ValueError e1 (PySem.W.looks_opaque X1 T.op) (l₀ := cd.mro) (fun A Q E s k q => wpAny_bind ((PySem.W.looks_clsIn X1 hcls) A _ E s k (wpAny_pure q))) rfl X1 hal (I1.type.andThen (PySem.W.looks_subIn X1 hsub)) (PySem.W.ks_ne X1 I1 hcls) (by decide) ?_
  have kp2 : ∀ b o, h0.get? b = some o → (h1.push (PySem.W.kxs_mw "ValueError.__init__" a)).get? b = some o := fun b o e => Heap.get?_push_of_some _ (kp1 b o e)
  have hu : (h1.push (PySem.W.kxs_mw "ValueError.__init__" a)).get? h1.objs.size = some (PySem.W.kxs_mw "ValueError.__init__" a) := Heap.get?_push_at rfl rfl
  generalize h1.push (PySem.W.kxs_mw "ValueError.__init__" a) = h2 at kp2 hu
  generalize h1.objs.size = u at hu
  have X2 : K.In h2 := X0.keeps kp2
  have ns2 := hns.keeps kp2
  refine PySem.W.kxs_callWith (i := "ValueError.__init__") (x := a) rfl (Calls.evalArgs_plain (Calls.spliced_cons (wpAny_Name (wpAny_loadName_local hkind hk1 ns2 v1 (Calls.spliced_cons (wpAny_Name (wpAny_loadName_local hkind hk2 ns2 v2 (Calls.spliced_nil ⟨hu, ?_⟩)) T.b2))) T.b1)))
  have he2 := kp2 a _ ho0
  refine wpAny_call (codeAny_of_tree ?_)
  show wpAny _ _ (callAny (.ref u) ⟨[u1, u2], []⟩) _ _ _
  simp only [callAny]
  refine wpAny_bind (wpAny_load hu ?_)
  simp only [PySem.W.kxs_mw, show (Value.type "method-wrapper" == Value.type "method" || Value.type "method-wrapper" == Value.type "builtin_function_or_method" || Value.type "method-wrapper" == Value.type "method-wrapper") = true by decide, if_true]
  refine PySem.W.KFB.if_so (by decide) ?_
  refine wpAny_bind (PySem.W.check_bound_init F.excBase_ValueError.toExcCallFacts (X2 _ _ hC) he2 rfl ?_)
  refine wpAny_bind (wpAny_pure (wpAny_pure ?_))
  refine ⟨plainId_quiet F.excBase_ValueError.init.plain _, codeAny_builtin F.excBase_ValueError.initEntry ?_⟩
  refine PySem.W.exc_init_tree (cls := .ref C) (t0 := t1) (dv := none) (c2 := .none) (c3 := .none) (b4 := .bool false) he2 (by rw [sizeLine_eq]; simp) (fun h3 kp3 e3 _ => ?_)
  have kp30 : ∀ b o, b ≠ a → h0.get? b = some o → h3.get? b = some o := fun b o hb e => kp3 b o hb (kp2 b o e)
  have hKa : ∀ b o, K.lookup b = some o → b ≠ a := fun b o hb z => by
    have h1 := (e0.bs b o (e0.mod.kin _ _ hb)).2
    rw [z, ha] at h1
    cases h1
  have X3 : K.In h3 := fun b o hb => kp30 b o (hKa b o hb) (X0 b o hb)
  have ns3 : h3.Ns L (fun x => ([("self", Value.ref a), (f1, u1), (f2, u2)] : List (Str × Value)).reverse.lookup x) := by
    obtain ⟨oL, es, ep, hLo, r⟩ := hns
    exact ⟨oL, es, ep, kp30 _ _ (Ne.symm aL) hLo, r⟩
  have hcl : PySem.W.clsIn K C = some { name := nmC, bases := bs, mro := .ref C :: bm, ns := NC, qualname := qC, hasDict := true, slotNames := sn, subclasses := sub, abstract := ab, collection := col, hasDel := false } := by unfold PySem.W.clsIn; rw [hC] <;> rfl
  -- self.f1 = f1
  refine PySem.ks_wpAt_execs_cons (PySem.ks_wpAt_Assign_Attr (wpAt_of_wpAny (wpAny_Name (wpAny_loadName_local hkind hk1 ns3 v1 (wpAny_Name (wpAny_loadName_local hkind hk0 ns3 v0 ?_) (by decide))) T.b1)) hs1)
  refine PySem.W.set_plain X3 (ox := { cls := .ref C, dict := none, data := .fields #[.ref h2.objs.size, .none, .none, .none, .bool false, .none] }) (od := none) ⟨e3, rfl, rfl, trivial⟩ T.cls.sa ?_
  refine PySem.HandSPX.exc_osa X3 e3 hcl (show PySem.HandSPX.refsVE (.ref C :: bm) = true from hbm) rfl T.n1 (fun h4 tk4 dx kp4 dn dne hx4 hn4 => ?_)
  have kp40 : ∀ b o, b ≠ a → h0.get? b = some o → h4.get? b = some o := fun b o hb e => kp4 b o hb (kp30 b o hb e)
  have X4 : K.In h4 := fun b o hb => kp40 b o (hKa b o hb) (X0 b o hb)
  have ns4 : h4.Ns L (fun x => ([("self", Value.ref a), (f1, u1), (f2, u2)] : List (Str × Value)).reverse.lookup x) := by
    obtain ⟨oL, es, ep, hLo, r⟩ := hns
    exact ⟨oL, es, ep, kp40 _ _ (Ne.symm aL) hLo, r⟩
  have dxn : ∀ b o, hp0.get? b = some o → b ≠ dx := fun b o e z => by
    by_cases hb : b = a
    · exact dne (z.symm.trans hb)
    · have := Heap.lt_size (kp30 b o hb (hkp b o e))
      rw [z] at this
      exact absurd this (Nat.not_lt.mpr dn)
  have dx0 : ∀ b o, h0.get? b = some o → b ≠ dx := fun b o e z => by
    by_cases hb : b = a
    · exact dne (z.symm.trans hb)
    · have := Heap.lt_size (kp30 b o hb e)
      rw [z] at this
      exact absurd this (Nat.not_lt.mpr dn)
  have Hdx : H dx = none := by
    cases e : H dx with
    | none => rfl
    | some o =>
      have o3 := (e0.hok dx o e).stay (h' := h3) (H' := H) (fun b u hb q => kp30 b u (by
        rcases hb with hb | hb
        · rw [hb]; exact dne
        · exact at_ne ha hb exo_own) (hkp b u q)) (fun _ q => q) fun _ _ q => q
      exact absurd o3.lt (Nat.not_lt.mpr dn)
  -- self.f2 = f2
  refine PySem.ks_wpAt_execs_cons (PySem.ks_wpAt_Assign_Attr (wpAt_of_wpAny (wpAny_Name (wpAny_loadName_local hkind hk2 ns4 v2 (wpAny_Name (wpAny_loadName_local hkind hk0 ns4 v0 ?_) (by decide))) T.b2)) hs2)
  have rel1 : ∀ f, RelO ([(f1, y)].lookup f) (if f = f1 then some u1 else none) := relO_put (fs := []) (mA := fun _ => none) r1 fun g => True.intro
  have hw4 := within_of (fs := [(f1, y)]) rel1
  obtain ⟨oD4, _, _, hoD4, _, _⟩ := hn4.count hw4
  refine PySem.W.set_plain X4 (ox := { cls := .ref C, dict := some dx, data := .fields #[.ref h2.objs.size, .none, .none, .none, .bool false, .none] }) (od := some oD4) ⟨hx4, rfl, rfl, hoD4⟩ T.cls.sa ?_
  refine PySem.OEX.osa_old X4 hx4 hn4 hw4 (by simp) hcl (show PySem.HandSPX.refsVE (.ref C :: bm) = true from hbm) rfl T.n2 (fun h5 tk5 kp5 hn5 => ?_)
  refine wpAt_of_wpAny (wpAny_execs_nil ?_)
  -- the end
  have kp50 : ∀ b o, b ≠ a → h0.get? b = some o → h5.get? b = some o := fun b o hb e => kp5 b o (dx0 b o e) (kp40 b o hb e)
  have kpS : ∀ b o, b ≠ a → hp0.get? b = some o → h5.get? b = some o := fun b o hb e => kp50 b o hb (hkp b o e)
  have hx5 := kp5 a _ (Ne.symm dne) hx4
  have na : ∀ {b : Addr}, H b = none → b ≠ a := fun {b} n z => by rw [z, ha] at n; cases n
  refine ⟨.non, upd (upd H dx (exd dx [(f2, z), (f1, y)])) a (exo a C (some dx)), rfl, e0.bare, ?_, ?_, rfl, hq dx Hdx dne⟩
  · exact {
      keep := fun b o e n _ _ => kpS b o (na n) e
      slot := fun b o e n _ _ => ⟨o.slots, kpS b o (na n) e⟩
      free := fun b o e n _ => by rw [upd_ne (na n), upd_ne (dxn b o e)]; exact n
      there := fun b o e _ => by
        by_cases hb : b = a
        · exact ⟨_, by rw [hb]; exact hx5⟩
        · exact ⟨o, kpS b o hb e⟩
      tups := fun b xs e => by rw [upd_ne (at_ne ha e exo_tup), upd_ne (ne_of_none e Hdx)]; exact e
      frzs := fun b o v e => by rw [upd_ne (at_ne ha e exo_frz), upd_ne (ne_of_none e Hdx)]; exact e
      tbls := fun b ps e => ⟨#[], by rw [upd_ne (at_ne ha e exo_tbl), upd_ne (ne_of_none e Hdx), e]; simp⟩ }
  · intro b o e
    by_cases hb : b = a
    · subst hb
      rw [upd_same] at e
      cases e
      exact exo_ok hx5
    · rw [upd_ne hb] at e
      by_cases hd : b = dx
      · subst hd
        rw [upd_same] at e
        cases e
        exact exd_ok hn5 (relO_put r2 rel1)
      · rw [upd_ne hd] at e
        exact (e0.hok b o e).stay (fun c v hc q => kpS c v (by
            rcases hc with hc | hc
            · rw [hc]; exact hb
            · exact at_ne ha hc exo_own) q)
          (fun c hc => by rw [upd_ne (at_ne ha hc exo_own), upd_ne (ne_of_none hc Hdx)]; exact hc) (fun c xs hc => by rw [upd_ne (at_ne ha hc exo_tup), upd_ne (ne_of_none hc Hdx)]; exact hc)
end RB
end
/-! text RMore -/
section
set_option Elab.async false
set_option linter.all false
set_option maxRecDepth 100000
set_option maxHeartbeats 4000000
/-! RMore: isinstance, sorted, join, a dict's display. -/
namespace RB
open PySem PySem.Spec PyProof.Rows L2
inductive Ty where
  | non | bool | int | str | list | tuple | dict
  deriving DecidableEq
def Ty.name : Ty → String
  | .non => "NoneType" | .bool => "bool" | .int => "int" | .str => "str" | .list => "list" | .tuple => "tuple" | .dict => "dict"
def Ty.isa : Ty → Ty → Bool
  | .bool, .int => true
  | a, b => decide (a = b)
def tyD : D → Option Ty
  | .none => some .non
  | .bool _ => some .bool
  | .int _ => some .int
  | .str _ => some .str
  | .list _ => some .list
  | .tuple _ => some .tuple
  | .dict _ => none
def tyR (r : Rv) (T S : Sto) : Option Ty := match r with
  | .v d => tyD d
  | .scr _ => some .list
  | .own n => (obList T[n]?).map fun _ => .list
  | .loc n => (match S[n]? with
    | some (.dic _) => some .dict
    | o => (obList o).map fun _ => .list)
  | .frd _ => none
  | .fdt _ => none
  | .frk _ => none
  | .prd _ _ => none
  | .glo _ => none
section
variable {K : PySem.W.Frag} [WC K] {G H : Hp} {L M : List Addr} {T S : Sto} {x : V} {r : Rv} {t : Ty}
theorem tyX_tup {a : Addr} {vs : List V} (h : SqT K H a vs) : TyX K H (.ref a) (.type "tuple") := by
  rcases h with (h | ⟨o, h⟩) | ⟨o, its, n, hk, hc, _⟩
  · exact .base (.tup h)
  · exact .fTuple h
  · exact .kTuple hk hc
theorem tyX_lst {a : Addr} {vs : List V} (h : SqL K H a vs) : TyX K H (.ref a) (.type "list") := by
  rcases h with (h | ⟨o, h⟩) | ⟨o, its, n, hk, hc, _⟩
  · exact .base (.lst h)
  · exact .base (.frz h)
  · exact .kList hk hc
theorem tyR_ok (f : Fits K G H L M T S) (h : RepR K G L M x r) (e : tyR r T S = some t) : TyX K H x (.type t.name) := by
  cases r with
  | v d =>
    have e : tyD d = some t := e
    cases (show Rep K G x d from h) with
    | non => cases e; exact .base .non
    | bl b => cases e; exact .base (.bl b)
    | int i => cases e; exact .base (.int i)
    | str z => cases e; exact .base (.str z)
    | tup hs _ => cases e; exact tyX_tup (sqT_mono f.sub hs)
    | lst hg _ => cases e; exact .base (.lst (f.sub _ _ hg))
  | scr ns =>
    cases e
    obtain ⟨a, rfl, hs⟩ := h
    exact tyX_lst (f.sub.seq hs)
  | frd kvs => cases e
  | fdt kvs => cases e
  | frk kvs => cases e
  | prd kvs d => cases e
  | glo nm => cases e
  | own n =>
    cases q : obList T[n]? with
    | none => have e : (obList T[n]?).map _ = some t := e; rw [q] at e; cases e
    | some ds =>
      have e : (obList T[n]?).map _ = some t := e
      rw [q] at e; cases e
      obtain ⟨a, vs, rfl, h1, _⟩ := lstOf_ok (r := .own n) f h q
      exact .base (.lst h1)
  | loc n =>
    obtain ⟨a, ha, rfl⟩ := h
    unfold tyR at e
    simp only at e
    split at e
    · rename_i kvs q
      cases e
      obtain ⟨ws, h1, _⟩ := f.obL n a _ ha q
      exact .base (.dK h1)
    · cases q : obList S[n]? with
      | none => rw [q] at e; cases e
      | some ds =>
        rw [q] at e; cases e
        obtain ⟨b, vs, e2, h1, _⟩ := lstOf_ok (r := .loc n) f ⟨a, ha, rfl⟩ q
        cases e2
        exact .base (.lst h1)
end
/-- isinstance(x, c) -/
def isiM (c : Ty) (m : EM Rv) : EM Rv := fun ρ T S => (m ρ T S).bind fun r T S => match tyR r T S with
  | some t => .ok (.v (.bool (t.isa c))) T S
  | none => .bad
theorem kit_isa (t c : Ty) : kitB t.name c.name = some (t.isa c) := by
  cases t <;> cases c <;> decide +kernel
section
variable {ct : Str → Option Addr} {X : Cx} [WC X.K] {W : WX} {a : Expr} {m : EM Rv} {p pc pos : Pos} {x : Str}
theorem se_isi (c : Ty) (hg : Gl X "isinstance") (hm : X.mg "isinstance" = none) (hgc : Gl X x) (hmc : X.mg x = none) (hbc : bootBuiltins x = some (.type c.name)) (hn : x ≠ "__name__") (hd : (x == ("__debug__" : Str)) = false) (ha : SE ct X W a m)
    (h1 : starEach [a, .Name x pc] X.env = (false, eval a X.env) :: starEach [.Name x pc] X.env) (h2 : starEach [.Name x pc] X.env = (false, eval (.Name x pc) X.env) :: starEach [] X.env) (hpl : (backTo pos (starEach [.Name x pc] X.env)).any (·.1) = false) :
    SE ct X W (.Call (.Name "isinstance" p) [a, .Name x pc] [] pos) (isiM c m) := by
  obtain ⟨t, pa, qa⟩ := ha
  refine ⟨_, pe_callB call_isi hg hm (by decide +kernel) (pa_cons pa (pa_cons (pe_bltn (v := .ty c.name) hgc hmc hbc rfl hn hd) pa_nil h2) h1) (by decide) (by decide) h1 hpl, fun ρ T S G H L M σ Q hl f sl h => ?_⟩
  refine qa ρ T S G H L M σ _ hl f sl (Sat.bind h fun r T1 S1 G1 H1 L1 M1 v e1 f1 r1 h1 => ?_)
  split at h1
  · rename_i ty et
    exact ⟨v, .ty c.name, .type ty.name, .type c.name, ty.isa c, rfl, .ty c.name, tyR_ok f1 r1 et, kit_ty (kit_isa ty c), sat_d f1 h1 (.bl _)⟩
  · exact (show False from h1).elim
end
end RB
namespace RB
open PySem PySem.Spec PyProof.Rows L2
/-! ### a, b, .. = x, y, ..: the values go to the names -/
def setAll : List Nat → List Rv → Vn → Vn
  | i :: is, r :: rs, ρ => setAll is rs (ρ.set i (some r))
  | _, _, ρ => ρ
def unpS (is : List Nat) (ms : EM (List Rv)) : SM := fun ρ T S => (ms ρ T S).out ρ fun rs T S => if rs.length = is.length then .next (setAll is rs ρ) T S else .bad
def gNames : List Nat → TGs
  | [] => gNil
  | i :: is => gCons (gName i) (gNames is)
theorem gNames_ok {K : PySem.W.Frag} [WC K] {G : Hp} {L M : List Addr} {H : Hp} {Q : L2.St → Hp → Prop} : ∀ {is : List Nat} {xs : List V} {rs : List Rv} {ρ : Vn} {σ : L2.St}, Sl K G L M ρ σ → RepRs K G L M xs rs → rs.length = is.length → (∀ σ', Sl K G L M (setAll is rs ρ) σ' → Q σ' H) → gNames is xs σ H Q
  | [], _, _, ρ, σ, sl, .nil, _, h => ⟨rfl, h σ sl⟩
  | [], _, _, ρ, σ, sl, .cons _ _, e, _ => by cases e
  | i :: is, _, _, ρ, σ, sl, .nil, e, _ => by cases e
  | i :: is, _, _, ρ, σ, sl, .cons (x := x) (xs := xs) h1 h2, e, h => ⟨x, xs, rfl, gNames_ok (sl.set h1) h2 (by simpa using e) h⟩
section
variable {ct : Str → Option Addr} {X : Cx} [WC X.K] {W : WX} {pos : Pos}
theorem pgn_nil : PGs X [] (gNames []) := pgs_nil
theorem pgn_cons {i : Nat} {x : Str} {px : Pos} {es : List Expr} {is : List Nat} (hN : X.N.Nodup) (hi : X.N[i]? = some x) (hx : Loc X.env.scope x) (hf : X.fn x = true ∨ X.env.scope.names.lookup x = some .local) (h2 : PGs X es (gNames is))
    (hs : (assignEach (.Name x px :: es) X.env).map (·.2) = assign (.Name x px) X.env :: (assignEach es X.env).map (·.2)) : PGs X (.Name x px :: es) (gNames (i :: is)) := pgs_cons (pg_name hN hi hx hf) h2 hs
theorem ss_unp {tgs es : List Expr} {is : List Nat} {ms : EM (List Rv)} {kt k2 : Nat} {pt p2 : Pos} {n : Nat} (hc : X.calm = true) (hg : PGs X tgs (gNames is)) (ha : SA ct X W es ms) (hn : (assignEach tgs X.env).length = n) (hn2 : is.length = n) (hst : (assignEach tgs X.env).findIdx? (·.1) = none)
    (hz : n ≤ 1000) (hs : swapsWithSole [.Tuple tgs kt pt] (.Tuple es k2 p2) pos.line X.env = pure false) (hw : swappedStores [.Tuple tgs kt pt] (.Tuple es k2 p2) X.env = pure none) (h1 : (assignEach [.Tuple tgs kt pt] X.env).map (·.2) = [assign (.Tuple tgs kt pt) X.env]) :
    SS ct X W (.Assign [.Tuple tgs kt pt] (.Tuple es k2 p2) pos) (unpS is ms) := by
  obtain ⟨t, p, q⟩ := ha
  refine ⟨_, ps_asg (pe_tup p) (pg_tup hc hg hn hst) hs hw h1, fun ρ T S G H L M σ E f sl h => ?_⟩
  refine q ρ T S G H L M σ _ sl.1 f sl.2 (SatS.of sl h fun rs T1 S1 G1 H1 L1 M1 xs e1 f1 r1 h1 => ?_)
  split at h1
  · rename_i hl
    refine ⟨by rw [r1.length, hl, hn2]; exact Nat.le_trans hz (by rw [sizeLine_eq]; decide), fun p hp => ⟨p, xs, rfl, .inl (.inl upd_same), by rw [r1.length, hl, hn2], ?_⟩⟩
    obtain ⟨x2, f2⟩ := f1.kept (H' := upd H1 p (.tup xs)) (fun b u hb => by rw [upd_ne (ne_of_none hb hp)]; exact hb) (tbl_new (fun _ z => by cases z))
    exact gNames_ok ((sl.mono e1).mono x2) (r1.mono x2) hl fun σ' sl' => h1 _ _ _ _ σ' x2 f2 sl'
  · exact (show False from h1).elim
end
/-! ### a def by its name -/
def Dfn (P : Program) (w : World) (K : PySem.W.Frag) [WC K] (mg : Str → Option Value) (base : Heap) (ct : Str → Option Addr) (x : Str) (k n : Nat) (fm : FM) : Prop :=
  ∃ f fd ps, FnOk P w K mg base (L2.CX P w) k f fd ps (spF ct K n fm) ∧ PySem.W.keepIn K (.ref f) = true ∧ Binds K fd ps [] ∧ mg x = some (.ref f)
section
variable {ct : Str → Option Addr} {X : Cx} [WC X.K] {W : WX} {x : Str} {p pos : Pos} {e : Expr} {es : List Expr} {ms : EM (List Rv)} {k j n : Nat} {fm : FM}
theorem se_fn (d : Dfn X.prog X.w X.K X.mg X.base ct x k n fm) (hr : Room j X.A) (hk : k ≤ j) (tk : Takes X W) (hg : Gl X x) (ha : SAn ct X W (e :: es) n ms) (hdb : (x == ("__debug__" : Str)) = false) (he : starEach (e :: es) X.env = (false, eval e X.env) :: starEach es X.env)
    (hpl : (backTo pos (starEach es X.env)).any (·.1) = false) : SE ct X W (.Call (.Name x p) (e :: es) [] pos) (callM (callF fm) ms) := by
  obtain ⟨f, fd, ps, F, kp, b, hm⟩ := d
  exact se_call F (hr.mono hk) tk kp b hm hg ha hdb he hpl
end
end RB
end
/-! text RSet -/
section
set_option Elab.async false
set_option linter.all false
set_option maxRecDepth 100000
set_option maxHeartbeats 4000000
/-! RSet: set(xs) of a list of texts, and sorted of it. -/
namespace RB
open PySem PySem.Spec PyProof.Rows L2
def keyS (e : Int × Value) : Str := match e.2 with | .str k _ => k | _ => Str.empty
def GoodS (P : Program) (w : World) (e : Int × Value) : Prop := ∃ k tk, e.2 = Value.str k tk ∧ e.1 = (strKind P w).hash k
/-- the set of texts at a -/
def SetS (P : Program) (w : World) (h : Heap) (a : Addr) (S : Str → Bool) (n : Nat) : Prop :=
  ∃ o es ep t, h.get? a = some o ∧ o.ExactSet ∧ o.data = .set es ep t ∧ (∀ e ∈ es.toList, GoodS P w e) ∧ (es.toList.map keyS).Nodup ∧ (∀ k, S k = true ↔ k ∈ es.toList.map keyS) ∧
    es.size < scanBound ∧ t.fits es.size = true ∧ es.size = n ∧ Ris t.place.toList ∧ (w.params.followText "set-order" = true ∨ t.led = true)
section
variable {P : Program} {w : World} {h h' : Heap} {a : Addr} {S : Str → Bool} {n : Nat}
theorem SetS.at (R : SetS P w h a S n) (k : ∀ o, h.get? a = some o → h'.get? a = some o) : SetS P w h' a S n := by
  obtain ⟨o, es, ep, t, ho, r⟩ := R
  exact ⟨o, es, ep, t, k o ho, r⟩
end
/-! ### set(xs) -/
end RB
end
/-! text RSet2 -/
section
set_option Elab.async false
set_option linter.all false
set_option maxRecDepth 100000
set_option maxHeartbeats 4000000
namespace RB
open PySem PySem.Spec PyProof.Rows L2
/-! ### sorted -/
end RB
end
/-! text RMore2 -/
section
set_option Elab.async false
set_option linter.all false
set_option maxRecDepth 100000
set_option maxHeartbeats 4000000
/-! RMore2: sorted, join, a dict's display, sorted(set(..)), x[::-1], a, b, c = x, y, z. -/
namespace RB
open PySem PySem.Spec PyProof.Rows L2
/-! ### texts only -/
def strsD : List D → Option (List Str)
  | [] => some []
  | .str x :: r => (strsD r).map (x :: ·)
  | _ :: _ => none
/-! ### sep.join(xs) -/
/-! ### sorted(set(xs)), xs a list of texts -/
/-! ### sorted(xs), xs a list -/
def leD (x y : D) : Bool := !PySem.W.dataLt y x
def allAlike (ds : List D) : Bool := ds.all fun d => ds.all fun e => PySem.W.alike d e
def isTupC : D → Bool
  | .tuple (_ :: _) => true
  | _ => false
def notTup : D → Bool
  | .tuple _ => false
  | .none => false
  | _ => true
def sortOk (ds : List D) : Bool := allAlike ds && (ds.all isTupC || ds.all notTup) && ds.all (fun d => decide (d.depth ≤ 32)) && decide (ds.length ≤ 16777216)
def sortD (ds : List D) : List D := ds.mergeSort leD
def c_sorted (rs : List Rv) (T S : Sto) : Res Rv := match rs with
  | [r] => (match look r T S with
    | some (.list xs) => if sortOk xs = true then .ok (.v (.list (sortD xs))) T S else .bad
    | _ => .bad)
  | _ => .bad
end RB
end
/-! text RMore3 -/
section
set_option Elab.async false
set_option linter.all false
set_option maxRecDepth 100000
set_option maxHeartbeats 4000000
/-! RMore3: a dict's display, x[::-1] of a tuple, a, b, c = x, y, z, return, truth values as ints. -/
namespace RB
open PySem PySem.Spec PyProof.Rows L2
/-! ### a, b, c = x, y, z -/
def par3S (i j l : Nat) (ms : EM (List Rv)) : SM := fun ρ T S => (ms ρ T S).out ρ fun rs T S => match rs with
  | [a, b, c] => .next (((ρ.set i (some a)).set j (some b)).set l (some c)) T S
  | _ => .bad
/-! ### truth values as ints -/
/-! ### x[::-1] -/
section
variable {ct : Str → Option Addr} {X : Cx} [WC X.K] {W : WX} {e : Expr}
def revM (m : EM Rv) : EM Rv := fun ρ T S => (m ρ T S).bind fun r T S => match look r T S with
  | some (.tuple xs) => .ok (.v (.tuple xs.reverse)) T S
  | _ => .bad
end
/-! ### a dict's display, by text keys -/
abbrev PM := EM (List (Str × D))
def pnil : PM := fun _ T S => .ok [] T S
def pcons (mk mv : EM Rv) (r : PM) : PM := fun ρ T S => (mk ρ T S).bind fun k T S => (mv ρ T S).bind fun v T S => match k, toD v T with
  | .v (.str x), some (d, T') => (r ρ T' S).bind fun kvs T S => .ok ((x, d) :: kvs) T S
  | _, _ => .bad
def dispM (m : PM) : EM Rv := fun ρ T S => (m ρ T S).bind fun kvs T S => if kvs.length ≤ 15 then .ok (.loc S.length) T (S ++ [.dic (kvs.foldl (fun acc kv => putD acc (.inr kv.1) kv.2) [])]) else .bad
abbrev relP (K : PySem.W.Frag) [WC K] : Hp → List Addr → List Addr → List (V × V) → List (Str × D) → Prop := fun G _ _ ps kvs => ps.map (·.1) = kvs.map (fun kv => V.str kv.1) ∧ Reps K G (ps.map (·.2)) (kvs.map (·.2))
section
variable {ct : Str → Option Addr} {X : Cx} [WC X.K] {W : WX} {pos : Pos}
def SP (ct : Str → Option Addr) (X : Cx) [WC X.K] (W : WX) (pos : Pos) (keys : List (Option Expr)) (values : List Expr) (m : PM) : Prop :=
  ∃ trs, PPs X pos keys values trs ∧ ∀ (ρ : Vn) (T S : Sto) (G H : Hp) (L M : List Addr) (σ : L2.St) (Q : List (V × V) → Hp → Prop), ρ.length = σ.length → Fits X.K G H L M T S → Slots X.K G L M ρ σ → Sat ct X.K W G H L M σ (relP X.K) Q (m ρ T S) → tPairs trs σ H Q
theorem sp_nil : SP ct X W pos [] [] pnil := ⟨[], pps_nil, fun ρ T S G H L M σ Q hl f sl h => h G H L M [] (Ext.refl _ _ _ _) f ⟨rfl, .nil⟩⟩
theorem sp_cons {k v : Expr} {ks : List (Option Expr)} {vs : List Expr} {mk mv : EM Rv} {r : PM} (hk : SE ct X W k mk) (hv : SE ct X W v mv) (hr : SP ct X W pos ks vs r) : SP ct X W pos (some k :: ks) (v :: vs) (pcons mk mv r) := by
  obtain ⟨t, p, q⟩ := hk
  obtain ⟨t2, p2, q2⟩ := hv
  obtain ⟨t3, p3, q3⟩ := hr
  refine ⟨_, pps_cons p p2 p3, fun ρ T S G H L M σ Q hl f sl h => ?_⟩
  refine q ρ T S G H L M σ _ hl f sl (Sat.bind h fun k T1 S1 G1 H1 L1 M1 x e1 f1 r1 h1 => ?_)
  refine q2 ρ T1 S1 G1 H1 L1 M1 σ _ hl f1 (sl.mono e1) (Sat.bind h1 fun v T2 S2 G2 H2 L2 M2 y e2 f2 r2 h2 => ?_)
  split at h2
  · rename_i z d T' ed
    obtain ⟨G3, x3, f3, r3⟩ := toD_ok f2 r2 ed
    refine q3 ρ T' S2 G3 H2 L2 M2 σ _ hl f3 (sl.mono ((e1.trans e2).trans x3)) (Sat.bind (Sat.pre x3 h2) fun kvs T4 S4 G4 H4 L4 M4 ps e4 f4 r4 h4 => ?_)
    cases (show Rep X.K G1 x (.str z) from r1)
    exact h4 G4 H4 L4 M4 _ (Ext.refl _ _ _ _) f4 ⟨by rw [List.map_cons, List.map_cons, r4.1], .cons (r3.mono e4.gm) r4.2⟩
  · exact (show False from h2).elim
theorem Sat.bindP {K : PySem.W.Frag} [WC K] {α β γ δ : Type} {G H G1 H1 : Hp} {L M L1 M1 : List Addr} {σ : L2.St} {rel : Hp → List Addr → List Addr → β → α → Prop} {rel2 : Hp → List Addr → List Addr → δ → γ → Prop} {Q1 : β → Hp → Prop} {Q2 : δ → Hp → Prop} {r : Res α} {k : α → Sto → Sto → Res γ}
    (x0 : Ext G H L M G1 H1 L1 M1) (h : Sat ct K W G H L M σ rel2 Q2 (r.bind k))
    (hk : ∀ a T' S' G' H' L' M' y, Ext G1 H1 L1 M1 G' H' L' M' → Fits K G' H' L' M' T' S' → rel G' L' M' y a → Sat ct K W G H L M σ rel2 Q2 (k a T' S') → Q1 y H') : Sat ct K W G1 H1 L1 M1 σ rel Q1 r := by
  cases r with
  | ok a T S => exact fun G' H' L' M' y e f q => hk a T S G' H' L' M' y e f q h
  | exn x T S => exact Sat.pre x0 h
  | bad => exact h
theorem merge_ok {K : PySem.W.Frag} [WC K] {G : Hp} : ∀ {more : List (Key × V)} {kvs : List (Str × D)} {ws : List (Key × V)} {acc : List (Key × D)}, more.map (·.1) = kvs.map (fun kv => Sum.inr kv.1) → Reps K G (more.map (·.2)) (kvs.map (·.2)) → ws.map (·.1) = acc.map (·.1) → Reps K G (ws.map (·.2)) (acc.map (·.2)) →
    (mergeK ws more).map (·.1) = (kvs.foldl (fun acc kv => putD acc (.inr kv.1) kv.2) acc).map (·.1) ∧ Reps K G ((mergeK ws more).map (·.2)) ((kvs.foldl (fun acc kv => putD acc (.inr kv.1) kv.2) acc).map (·.2))
  | [], [], _, _, _, _, h, q => ⟨h, q⟩
  | [], _ :: _, _, _, h, _, _, _ => by cases h
  | _ :: _, [], _, _, h, _, _, _ => by cases h
  | (k, v) :: more, (x, d) :: kvs, ws, acc, h, r, h2, q2 => by
    rw [List.map_cons, List.map_cons] at h
    injection h with h1 h3
    have h1 : k = .inr x := h1
    subst h1
    cases r with
    | cons r1 r2 =>
      obtain ⟨a1, a2⟩ := put_ok (k := .inr x) r1 h2 q2
      exact merge_ok (more := more) (kvs := kvs) (ws := putK ws (.inr x) v) (acc := putD acc (.inr x) d) h3 r2 a1 a2
/-- a thing that nobody holds becomes one of the shared store -/
theorem Fits.adoptL {K : PySem.W.Frag} [WC K] {G H G0 H0 : Hp} {L M L0 M0 : List Addr} {T S : Sto} {p : Addr} {u : HO} {o : Ob} (f : Fits K G H L M T S) (x : Ext G0 H0 L0 M0 G H L M) (h0 : H0 p = none) (hp : H p = some (.dK [])) (hg : G p = none) (hL : p ∉ L) (hM : p ∉ M) (ho : ROb K L [] G (upd H p u) p o) (hu : ∀ ps, u ≠ .tbl ps) :
    Ext G0 H0 L0 M0 G (upd H p u) (L ++ [p]) M ∧ Fits K G (upd H p u) (L ++ [p]) M T (S ++ [o]) := by
  refine ⟨⟨x.gm, x.lp.trans (List.prefix_append L [p]), x.mp, fun a w h nt hl hm => ?_, fun a w h nt => ?_, x.gn, fun a h => ?_, x.mn⟩, ⟨fun a w h => by rw [upd_ne (ne_of_none h hg)]; exact f.sub a w h, ?_, by rw [List.length_append, List.length_append, f.lenL]; rfl, f.lenM, fun n b q e1 e2 => ?_, fun k b q e1 e2 => ?_, tbs_upd f.tbs hp (fun _ z => by cases z) (fun _ _ z => by cases z) hu⟩⟩
  · rw [upd_ne (ne_of_none h h0)]; exact x.keep a w h nt hl hm
  · rw [upd_ne (ne_of_none h h0)]; exact x.dom a w h nt
  · rcases List.mem_append.mp h with z | z
    · exact x.ln a z
    · rw [List.mem_singleton] at z; subst z; exact .inr (.inl h0)
  · have pm : (L ++ [p] ++ M).Perm (p :: (L ++ M)) := by
      rw [List.append_assoc]
      exact List.perm_middle
    exact pm.nodup_iff.mpr (List.nodup_cons.mpr ⟨fun z => (List.mem_append.mp z).elim hL hM, f.nd⟩)
  · by_cases hn : n < L.length
    · rw [List.getElem?_append_left hn] at e1
      rw [List.getElem?_append_left (by rw [← f.lenL]; exact hn)] at e2
      refine ROb.mono (List.prefix_append L [p]) (Same.refl G) (fun z => z) (fun z hz => ?_) (f.obL n b q e1 e2)
      rw [upd_ne (show b ≠ p from fun e => hL (by rw [← e]; exact List.mem_of_getElem? e1))]; exact hz
    · rw [List.getElem?_append_right (by omega)] at e1
      rw [List.getElem?_append_right (by have := f.lenL; omega)] at e2
      have hz : n - L.length = 0 := by
        have := lt_of_get e1
        simp at this
        omega
      rw [hz] at e1
      rw [← f.lenL, hz] at e2
      cases e1; cases e2
      exact ROb.mono (List.prefix_append L [p]) (Same.refl G) (fun z => z) (fun _ z => z) ho
  · refine ROb.mono (List.prefix_append L [p]) (Same.refl G) (fun z => z) (fun z hz => ?_) (f.obM k b q e1 e2)
    rw [upd_ne (show b ≠ p from fun e => hM (by rw [← e]; exact List.mem_of_getElem? e1))]; exact hz
theorem Fits.fresh {K : PySem.W.Frag} [WC K] {G H : Hp} {L M : List Addr} {T S : Sto} {p : Addr} (f : Fits K G H L M T S) (hp : H p = none) : p ∉ L ∧ p ∉ M := by
  constructor
  · intro z
    obtain ⟨n, hn⟩ := List.mem_iff_getElem?.mp z
    obtain ⟨u, hu⟩ := ROb.held (f.obL n p _ hn (List.getElem?_eq_getElem (show n < S.length by rw [← f.lenL]; exact lt_of_get hn)))
    rw [hp] at hu; cases hu
  · intro z
    obtain ⟨n, hn⟩ := List.mem_iff_getElem?.mp z
    obtain ⟨u, hu⟩ := ROb.held (f.obM n p _ hn (List.getElem?_eq_getElem (show n < T.length by rw [← f.lenM]; exact lt_of_get hn)))
    rw [hp] at hu; cases hu
theorem pairs_keys : ∀ {ps : List (V × V)} {kvs : List (Str × D)}, ps.map (·.1) = kvs.map (fun kv => V.str kv.1) → ∃ ws : List (Key × V), ps = ws.map (fun kv => (kV kv.1, kv.2)) ∧ ws.map (·.1) = kvs.map (fun kv => Sum.inr kv.1) ∧ ws.map (·.2) = ps.map (·.2)
  | [], [], _ => ⟨[], rfl, rfl, rfl⟩
  | [], _ :: _, h => by cases h
  | _ :: _, [], h => by cases h
  | (a, b) :: ps, (x, d) :: kvs, h => by
    rw [List.map_cons, List.map_cons] at h
    injection h with h1 h2
    have h1 : a = V.str x := h1
    obtain ⟨ws, e1, e2, e3⟩ := pairs_keys h2
    exact ⟨(.inr x, b) :: ws, by rw [List.map_cons, ← e1, h1]; rfl, by rw [List.map_cons, e2]; rfl, by rw [List.map_cons, List.map_cons, e3]⟩
theorem se_disp {keys : List (Option Expr)} {values : List Expr} {m : PM} (h : SP ct X W pos keys values m) (hall : keys.all (·.isSome) = true) (hl : keys.length = values.length) (h0 : keys ≠ []) (h15 : keys.length ≤ 15) : SE ct X W (.Dict keys values pos) (dispM m) := by
  obtain ⟨trs, p, q⟩ := h
  refine ⟨_, pe_disp p hall hl h0 h15, fun ρ T S G H L M σ Q hl f sl h => ?_⟩
  intro a ha
  obtain ⟨x0, f0⟩ := f.kept (H' := upd H a (.dK [])) (fun b u hb => by rw [upd_ne (ne_of_none hb ha)]; exact hb) (tbl_new (fun _ z => by cases z))
  obtain ⟨nL, nM⟩ := f.fresh ha
  refine q ρ T S G _ L M σ _ hl f0 (sl.mono x0) (Sat.bindP x0 h fun kvs T1 S1 G1 H1 L1 M1 ps e1 f1 r1 h1 => ?_)
  obtain ⟨a1, a2, a3, a4⟩ := ext_out e1 upd_same (fun _ z => by cases z) (f.sub.free ha) nL nM
  refine ⟨a1, ?_⟩
  split at h1
  · rename_i hz
    obtain ⟨ws, w1, w2, w3⟩ := pairs_keys r1.1
    have hr : Reps X.K G1 (ws.map (·.2)) (kvs.map (·.2)) := by rw [w3]; exact r1.2
    obtain ⟨b1, b2⟩ := merge_ok (ws := []) (acc := []) w2 hr rfl .nil
    obtain ⟨x2, f2⟩ := f1.adoptL (u := .dK (mergeK [] ws)) (o := .dic (kvs.foldl (fun acc kv => putD acc (.inr kv.1) kv.2) [])) (x0.trans e1) ha a1 a2 a3 a4 ⟨_, upd_same, a2, b1, b2⟩ (fun _ z => by cases z)
    have hlw : ws.length = kvs.length := by have := congrArg List.length w2; simpa using this
    refine ⟨ws, w1, by rw [hlw]; exact hz, h1 _ _ _ _ _ x2 f2 ⟨a, ?_, rfl⟩⟩
    rw [← f1.lenL, List.getElem?_append_right (Nat.le_refl _), Nat.sub_self]
    rfl
  · exact (show False from h1).elim
end
end RB
end
/-! text RLam -/
section
set_option Elab.async false
set_option linter.all false
set_option maxRecDepth 100000
set_option maxHeartbeats 4000000
/-! RLam: raise C(a, b); h(lambda: e) where h tells what e gave or raised. -/
namespace RB
open PySem PySem.Spec PyProof.Rows L2
instance wcLam {X : Cx} [h : WC X.K] {A : Around} {outer : List Env} {s : Shared} {H : Hp} {E : XK} {scope : Scope} {f c : Addr} : WC (LamX.lamCx X A outer s H E scope f c).K := h
/-- what is known of an own exception class -/
def Exc (P : Program) (K : PySem.W.Frag) [WC K] (mg : Str → Option Value) (ct : Str → Option Addr) (cls f1 f2 : Str) : Prop :=
  ∃ C fI fd, mg cls = some (.ref C) ∧ ct cls = some C ∧ ExcW P K C fI f1 f2 fd ∧ Binds K fd ["self", f1, f2] [] ∧ XfC K C ∧ PySem.W.exmOne K (.ref C) (.ref C) = some true
def raiseS (cls f1 f2 : Str) (ms : EM (List Rv)) : SM := fun ρ T S => (ms ρ T S).out ρ fun rs T S => match toDs rs T with
  | some ([d1, d2], T') => .exn ⟨cls, [(f2, d2), (f1, d1)]⟩ ρ T' S
  | _ => .bad
abbrev CXn : CXT := fun _ _ _ _ _ _ => False
section
variable {ct : Str → Option Addr} {X : Cx} [WC X.K] {W : WX} {e : Expr} {es : List Expr} {ms : EM (List Rv)} {cls f1 f2 : Str} {p pos rpos : Pos} {k : Nat}
theorem ss_raise (xc : Exc X.prog X.K X.mg ct cls f1 f2) (hc : X.calm = true) (tk : Takes X W) (hr : Room (k + 2) X.A) (hg : Gl X cls) (ha : SA ct X W (e :: es) ms) (hdb : (cls == ("__debug__" : Str)) = false)
    (he : starEach (e :: es) X.env = (false, eval e X.env) :: starEach es X.env) (hpl : (backTo pos (starEach es X.env)).any (·.1) = false) :
    SS ct X W (.Raise (some (.Call (.Name cls p) (e :: es) [] pos)) none rpos) (raiseS cls f1 f2 ms) := by
  obtain ⟨C, fI, fd, hm, hct, T, hb, hxf, _⟩ := xc
  obtain ⟨ta, pa, qa⟩ := ha
  refine ⟨_, ps_raise hc tk (pmk_oex T.cls T.ini T.ty (ini_ok (CX := CXn) (k := k) T) hr hb .nil (fun _ _ _ _ _ _ _ h => h.elim) hg hm pa hdb he hpl), fun ρ T0 S G H L M σ E f sl h => ?_⟩
  show ta σ H _
  refine qa ρ T0 S G H L M σ _ sl.1 f sl.2 (SatS.of sl h fun rs T1 S1 G1 H1 L1 M1 xs e1 f1' r1 h1 => ?_)
  cases ed : toDs rs T1 with
  | none => rw [ed] at h1; exact (show False from h1).elim
  | some pr =>
    obtain ⟨ds, T'⟩ := pr
    rw [ed] at h1
    match ds, ed, h1 with
    | [], _, h1 => exact (show False from h1).elim
    | [_], _, h1 => exact (show False from h1).elim
    | _ :: _ :: _ :: _, _, h1 => exact (show False from h1).elim
    | [d1, d2], ed, h1 =>
      obtain ⟨G2, x2, f2', r2⟩ := toDs_ok f1' r1 ed
      cases r2 with
      | @cons v1 _ _ _ q1 r2 =>
      cases r2 with
      | @cons v2 _ _ _ q2 r2 =>
      cases r2
      refine ⟨by simp, fun a ha => ⟨a, v1, v2, rfl, upd_same, fun dx hdx dne => ⟨rfl, dx, [(f2, v2), (f1, v1)], upd_same, by rw [upd_ne dne, upd_same], ?_, ?_⟩⟩⟩
      · rw [upd_ne dne] at hdx; exact hdx
      · have hdn : H1 dx = none := by rw [upd_ne dne] at hdx; exact hdx
        have eH : upd (del (upd (upd (upd H1 a (exo a C none)) dx (exd dx [(f2, v2), (f1, v1)])) a (exo a C (some dx))) a) dx (.xd [(f2, v2), (f1, v1)]) = upd H1 dx (.xd [(f2, v2), (f1, v1)]) := by
          funext b
          by_cases h1 : b = dx
          · rw [h1, upd_same, upd_same]
          · rw [upd_ne h1, upd_ne h1]
            by_cases h2 : b = a
            · rw [h2, del_same, ha]
            · rw [del_ne h2, upd_ne h2, upd_ne h1, upd_ne h2]
        rw [eH]
        obtain ⟨x3, f3⟩ := f2'.kept (H' := upd H1 dx (.xd [(f2, v2), (f1, v1)])) (fun b u hb => by rw [upd_ne (ne_of_none hb hdn)]; exact hb) (tbl_new fun _ z => by cases z)
        exact h1 G2 _ L1 M1 σ (.ref C) (some dx) (x2.trans x3) f3 ((sl.mono e1).mono x2) ⟨C, dx, _, hct, rfl, rfl, upd_same, rfl, .cons q2 (.cons q1 .nil)⟩
end
/-! ### h(lambda: e) -/
theorem takes_len {X : Cx} [WC X.K] {W : WX} (tk : Takes X W) : Takes X (fun c d σ H => σ.length = X.N.length → W c d σ H) := fun u s' ⟨a, B, sI, pins, σ, H, cls, d, e, I, nb, up, sky, na, os, ag, w⟩ =>
  tk u s' ⟨a, B, sI, pins, σ, H, cls, d, e, I, nb, up, sky, na, os, ag, w I.len⟩
section
variable {K : PySem.W.Frag} [WC K] {G H H1 : Hp} {L M : List Addr} {T S : Sto}
theorem Fits.extN (f : Fits K G H L M T S) (hN : LamX.ExtN H H1) (hT : LamX.Tabs (ttOf K) H1) : Ext G H L M G H1 L M ∧ Fits K G H1 L M T S := by
  have ob : ∀ (m : List Addr) (a : Addr) (o : Ob), ROb K L m G H a o → ROb K L m G H1 a o := fun m a o r => by
    obtain ⟨u, hu, nt, _⟩ := ROb.plain r
    exact ROb.mono (List.prefix_refl _) (Same.refl G) (fun z => z) (fun z hz => by rw [hu] at hz; cases hz; exact hN a _ hu nt) r
  exact ⟨⟨Same.refl G, List.prefix_refl L, List.prefix_refl M, fun a o h nt _ _ => hN a o h nt, fun a o h nt => ⟨o, hN a o h nt, nt⟩, fun _ _ h => .inl h, fun _ h => .inl h, fun _ h => .inl h⟩,
    ⟨fun a o h => hN a o (f.sub a o h) (fun ps z => f.tbs.gt a ps (by rw [h, z])), f.nd, f.lenL, f.lenM, fun n a o e1 e2 => ob [] a o (f.obL n a o e1 e2), fun n a o e1 e2 => ob M a o (f.obM n a o e1 e2), ⟨hT, f.tbs.gt⟩⟩⟩
end
/-- the tables of the defs that are told -/
structure TabsOk (K : PySem.W.Frag) [WC K] (mg : Str → Option Value) (base : Heap) : Prop where
  fn : ∀ p ∈ ttOf K, ∀ q ∈ ttOf K, p.1 = q.1 → p.2 = q.2
  tb : ∀ (f : Addr) (o : Obj) (fd : FuncData) (c : Addr), K.lookup f = some o → o.data = .func fd → fd.code = .ref c → LamX.TabB base mg c (He.tabOf K c)
/-- cd is the code object of a def of that name, with its table -/
def CdOk (K : PySem.W.Frag) [WC K] (mg : Str → Option Value) (base : Heap) (cd : Value) (q : Str) : Prop := ∃ c, cd = .ref c ∧ (He.tabOf K c, lamQ q) ∈ ttOf K ∧ LamX.TabB base mg c (He.tabOf K c)
theorem cd_ok {K : PySem.W.Frag} [WC K] {mg : Str → Option Value} {base : Heap} (TL : TabsOk K mg base) {f : Addr} {o : Obj} {fd : FuncData} {q : Str} (lk : K.lookup f = some o) (hd : o.data = .func fd) (hq : fd.qualname = q) (hc : PySem.W.codeIn K fd.code q = true) : CdOk K mg base fd.code q := by
  obtain ⟨c, ec⟩ := He.codeIn_ref hc
  refine ⟨c, ec, List.mem_filterMap.mpr ⟨(f, o), He.lookup_mem lk, ?_⟩, TL.tb f o fd c lk hd ec⟩
  show (match o.data with | .func fd => (match fd.code with | .ref c => some (He.tabOf K c, lamQ fd.qualname) | _ => none) | _ => none) = _
  rw [hd]
  show (match fd.code with | .ref c => some (He.tabOf K c, lamQ fd.qualname) | _ => none) = _
  rw [ec, hq]
section
variable {P : Program} {w : World} {K : PySem.W.Frag} [WC K] {mg : Str → Option Value} {base : Heap} {ct : Str → Option Addr}
/-- as fn_ok; the code object is known -/
theorem fn_okL {x qual : Str} {st : Stmt} {f : Addr} {fd : FuncData} {N ps : List Str} {k : Nat} {m : SM} (TL : TabsOk K mg base) (F : Fun K x qual st f fd) (S : FnScope N ps (defScope st))
    (hbody : ∀ (cdv : Value) (A : Around) (outer : List Env) (s : Shared) (H : Hp) (E : XK), CdOk K mg base cdv qual → Room k (A.deeper (envOfC qual (defScope st) s.heap.objs.size f cdv)) → SSs ct (cxOf (L2.CX P w) P w K mg base N qual (defScope st) f cdv A outer s H E) (WEx E) (defBody st) m) :
    FnOk P w K mg base (L2.CX P w) (k + 1) f fd ps (spF ct K ps.length (fnM N.length m)) := by
  obtain ⟨oc, od, kV, doc, pm, an, cdv, ctv, osl, rfl, lk, hcd⟩ := F.ex
  refine fn_of lk hcd S (fun vs H Q E h => h.1) fun A outer s H vs Q E hr h => ?_
  obtain ⟨hl, G, L, S0, rs, hf, hrs, h⟩ := h
  obtain ⟨t, p, q⟩ := hbody cdv A outer s H E (cd_ok TL lk rfl rfl hcd) hr
  exact ⟨t, p, q _ [] S0 G H L [] _ _ hf (start_sl hrs) (fnM_sat h)⟩
end
end RB
end
/-! text RMore4 -/
section
set_option Elab.async false
set_option linter.all false
set_option maxRecDepth 100000
set_option maxHeartbeats 4000000
/-! RMore4: starred items, sorted(tuple), list(range(..)), keyword arguments. -/
namespace RB
open PySem PySem.Spec PyProof.Rows L2
section
variable {ct : Str → Option Addr} {X : Cx} [WC X.K] {W : WX} {e : Expr} {es : List Expr} {m : EM Rv} {ms mz : EM (List Rv)} {p pos : Pos}
/-! ### *xs among the items -/
def starA (m : EM Rv) (ms : EM (List Rv)) : EM (List Rv) := fun ρ T S => (m ρ T S).bind fun r T S => match look r T S with
  | some (.list xs) => (ms ρ T S).bind fun rs T S => .ok (xs.map .v ++ rs) T S
  | some (.tuple xs) => (ms ρ T S).bind fun rs T S => .ok (xs.map .v ++ rs) T S
  | _ => .bad
/-! ### list(range(a, b)) -/
/-! ### keywords -/
def catA (ms mz : EM (List Rv)) : EM (List Rv) := fun ρ T S => (ms ρ T S).bind fun rs T S => (mz ρ T S).bind fun zs T S => .ok (rs ++ zs) T S
/-- keyword arguments -/
def SK (ct : Str → Option Addr) (X : Cx) [WC X.K] (W : WX) (kws : List Keyword) (n : Nat) (m : EM (List Rv)) : Prop :=
  (∃ t, PK X kws t ∧ ∀ (ρ : Vn) (T S : Sto) (G H : Hp) (L M : List Addr) (σ : L2.St) (Q : List V → Hp → Prop), ρ.length = σ.length → Fits X.K G H L M T S → Slots X.K G L M ρ σ → Sat ct X.K W G H L M σ (RepRs X.K) Q (m ρ T S) → t σ H Q) ∧ ∀ ρ T S rs T' S', m ρ T S = .ok rs T' S' → rs.length = n
theorem sk_nil : SK ct X W [] 0 nilA := ⟨⟨tNil, pk_nil, fun ρ T S G H L M σ Q hl f sl q => q G H L M [] (Ext.refl G H L M) f .nil⟩, fun ρ T S rs T' S' h => by cases h; rfl⟩
theorem consA_len {me : EM Rv} {n : Nat} (hr : ∀ ρ T S rs T' S', ms ρ T S = .ok rs T' S' → rs.length = n) : ∀ ρ T S rs T' S', consA me ms ρ T S = .ok rs T' S' → rs.length = n + 1 := fun ρ T S rs T' S' h => by
  unfold consA at h
  cases e1 : me ρ T S with
  | ok r T1 S1 =>
    rw [e1] at h
    have h : (ms ρ T1 S1).bind (fun rs T S => Res.ok (r :: rs) T S) = .ok rs T' S' := h
    cases e2 : ms ρ T1 S1 with
    | ok rs2 T2 S2 => rw [e2] at h; cases h; rw [List.length_cons, hr ρ T1 S1 rs2 _ _ e2]
    | exn z T2 S2 => rw [e2] at h; cases h
    | bad => rw [e2] at h; cases h
  | exn z T1 S1 => rw [e1] at h; cases h
  | bad => rw [e1] at h; cases h
theorem sk_cons {kws : List Keyword} {n : Nat} {nm : Option Str} {kpos : Pos} (h : SE ct X W e m) (hr : SK ct X W kws n ms) : SK ct X W (⟨nm, e, kpos⟩ :: kws) (n + 1) (consA m ms) := by
  obtain ⟨t, pe, q⟩ := h
  obtain ⟨⟨t2, p2, q2⟩, hn⟩ := hr
  refine ⟨⟨tCons t t2, pk_cons pe p2, fun ρ T S G H L M σ Q hl f sl h => ?_⟩, consA_len hn⟩
  refine q ρ T S G H L M σ _ hl f sl (Sat.bind h fun r T1 S1 G1 H1 L1 M1 x e1 f1 r1 h1 => ?_)
  refine q2 ρ T1 S1 G1 H1 L1 M1 σ _ hl f1 (sl.mono e1) (Sat.bind h1 fun rs T2 S2 G2 H2 L2 M2 xs e2 f2 r2 h2 => ?_)
  exact h2 G2 H2 L2 M2 (x :: xs) (Ext.refl _ _ _ _) f2 (.cons (r1.mono e2) r2)
theorem RepRs.append {K : PySem.W.Frag} [WC K] {G : Hp} {L M : List Addr} : ∀ {xs ys : List V} {rs zs : List Rv}, RepRs K G L M xs rs → RepRs K G L M ys zs → RepRs K G L M (xs ++ ys) (rs ++ zs)
  | _, _, _, _, .nil, h => h
  | _, _, _, _, .cons h t, h2 => .cons h (RepRs.append t h2)
def dflA (ds : List D) : EM (List Rv) := fun _ T S => .ok (ds.map .v) T S
end
/-! ### sorted(t), t a tuple -/
end RB
end
/-! text RHead -/
section
set_option Elab.async false
set_option linter.all false
set_option maxRecDepth 100000
set_option maxHeartbeats 4000000
/-! RHead: from a def's promise to the law's statement; tables of code objects, own exceptions. -/
namespace RB
open PySem PySem.Spec PyProof.Rows L2
theorem walk_ofR {l : PySem.W.OpenLaw} {n k : Nat} {q : Program} {loose : List Str} {XP : (Str → Option Value) → Heap → Prop} {YP : World → Heap → Prop} {d : DefRec} {CX : World → CXT} {x : Str}
    (hn : l.most = some n) (hn2 : n ≤ sizeLine) (hdf : d.params.defaults = []) (hr : Room k callerA)
    (F : ∀ (w : World) (mg : Str → Option Value) (fa : Addr) (h : Heap), YP w h → h.Ns mainGlobals mg → mg d.name = some (.ref fa) → ∃ K : PySem.W.Frag, K.In h ∧ LamX.LawAtS l w K (CX w) k n x mg fa h)
    (hCX : ∀ (w : World) (H : Hp) (s : Shared) (e : Value) (s' : Shared), CX w [] H s (fun _ _ _ => False) e s' → False) :
    PySem.W.WalkO q loose XP YP l.row.toRowW d [] (fun f vs => PySem.call f vs) := by
  refine Att.attach_callB hn hdf fun w s₀ s₁ mg mb fa o pm cd doc a vs ns G Y ho hd hcd hmg hobj hints hlen hbits hg => ?_
  obtain ⟨K, KX, fd, cs, sp, hT, nT, C, hb, hsp, hF⟩ := F w mg fa _ Y G.T.g hmg
  exact LamX.law_callTs KX G.T.g G.T.b G.T.builtins G.T.nolimit hg hT nT C G.T.bmain hobj hints (Nat.le_trans hlen hn2) hr hF hb (fun H hH hS => hsp H a ns hlen hbits hH hS) fun H e s' => hCX w H s₁ e s'
theorem cx_none (P : Program) (w : World) (H : Hp) (s : Shared) (e : Value) (s' : Shared) (h : L2.CX P w [] H s (fun _ _ _ => False) e s') : False := by
  obtain ⟨_, _, _, _, _, _, _, _, _, _, _, _, q⟩ := h
  exact q
theorem fun_of {K : PySem.W.Frag} {x : Str} {st : Stmt} {kws : List (Str × V)} {f : Addr} {fd : FuncData} (F : FunD K x x (defArgs st) (defBody st) (defScope st) [] kws f fd) : Fun K x x st f fd := by
  obtain ⟨oc, od, dV, kV, doc, pm, an, cdv, ct, osl, e, lk, hcd, hD, hK⟩ := F.ex
  rcases hD with ⟨_, rfl⟩ | ⟨e, _⟩
  · exact ⟨⟨oc, od, kV, doc, pm, an, cdv, ct, osl, e, lk, hcd⟩, F.kp⟩
  · exact absurd rfl e
/-- what is frozen at the start: all but the tables -/
def noTb (H : Hp) : Hp := fun b => match H b with
  | some (.tbl _) => none
  | o => o
theorem noTb_some {H : Hp} {b : Addr} {o : HO} (h : H b = some o) (nt : ∀ ps, o ≠ .tbl ps) : noTb H b = some o := by
  unfold noTb
  rw [h]
  cases o <;> first | rfl | exact absurd rfl (nt _)
theorem noTb_sub (H : Hp) : Same (noTb H) H := fun b o h => by
  unfold noTb at h
  cases e : H b with
  | none => rw [e] at h; cases h
  | some u => rw [e] at h; cases u <;> first | exact h | cases h
theorem noTb_no (H : Hp) : ∀ a ps, noTb H a ≠ some (.tbl ps) := fun a ps h => by
  have h1 := noTb_sub H a _ h
  unfold noTb at h
  rw [h1] at h
  cases h
theorem sqL_noTb {K : PySem.W.Frag} {H : Hp} {a : Addr} {xs : List V} (h : SqL K H a xs) : SqL K (noTb H) a xs := by
  rcases h with (h | ⟨o, h⟩) | h
  · exact .inl (.inl (noTb_some h fun _ z => by cases z))
  · exact .inl (.inr ⟨o, noTb_some h fun _ z => by cases z⟩)
  · exact .inr h
/-- the law's def answers True -/
theorem spF_true {ct : Str → Option Addr} {K : PySem.W.Frag} [WC K] {f : FM} {ns : List Int} {H : Hp} {a : Addr} (h : ∃ S', f [.scr ns] [] = .ok (.v (.bool true)) S') (hS : SqL K H a (ns.map V.int)) (hT : ∀ p ∈ ttOf K, H p.1 = some (.tbl #[])) :
    spF ct K 1 f [.ref a] H (fun v _ => v = .bl true) fun _ _ _ => False := by
  obtain ⟨S', e⟩ := h
  refine ⟨rfl, noTb H, [], [], [.scr ns], ⟨noTb_sub H, List.nodup_nil, rfl, rfl, fun n a o e _ => by simp at e, fun n a o e _ => by simp at e, ⟨fun p hp => LamX.TabS.nil (hT p hp), noTb_no H⟩⟩, .cons ⟨a, rfl, sqL_noTb hS⟩ .nil, ?_⟩
  rw [e]
  intro G' H' L' v _ _ r
  cases (show Rep K G' v (.bool true) from r)
  rfl
end RB
end
/-! text RHead2 -/
section
set_option Elab.async false
set_option linter.all false
set_option maxRecDepth 100000
set_option maxHeartbeats 4000000
/-! RHead2: what the head tells of tables and own exceptions. -/
namespace RB
open PySem PySem.Spec PyProof.Rows L2
theorem tt_cs {K : PySem.W.Frag} {p : Addr × Str} (h : p ∈ ttOf K) : ∃ q ∈ csOf K, q.2 = p.1 := by
  obtain ⟨x, hx, e⟩ := List.mem_filterMap.mp h
  cases hd : x.2.data with
  | func fd =>
    rw [hd] at e
    cases hc : fd.code with
    | ref c =>
      simp only [hc] at e
      refine ⟨(c, He.tabOf K c), List.mem_filterMap.mpr ⟨x, hx, ?_⟩, ?_⟩
      · rw [hd]; simp only [hc]
      · rw [← Option.some.inj e]
    | _ => simp only [hc] at e; cases e
  | _ => rw [hd] at e; cases e
theorem cs_mem {K : PySem.W.Frag} {f c : Addr} {o : Obj} {fd : FuncData} (lk : K.lookup f = some o) (hd : o.data = .func fd) (hc : fd.code = .ref c) : (c, He.tabOf K c) ∈ csOf K :=
  List.mem_filterMap.mpr ⟨(f, o), He.lookup_mem lk, by show (match o.data with | .func fd => (match fd.code with | .ref c => some (c, He.tabOf K c) | _ => none) | _ => none) = _; rw [hd]; simp only [hc]⟩
theorem ttB_ok {K : PySem.W.Frag} (h : ttB K = true) : ∀ p ∈ ttOf K, ∀ q ∈ ttOf K, p.1 = q.1 → p.2 = q.2 := fun p hp q hq e => by
  have h1 := List.all_eq_true.mp (List.all_eq_true.mp h p hp) q hq
  rw [Bool.or_eq_true, Bool.not_eq_true', beq_eq_false_iff_ne, decide_eq_true_eq] at h1
  exact h1.elim (fun z => (z e).elim) id
/-! ### an exception's __init__ -/
theorem oex_of {K : PySem.W.Frag} {C : Addr} (h : veB K C = true) (sa : PySem.W.findIn K (.ref C) "__setattr__" = some (some (.builtin "object.__setattr__"))) (e1 : PySem.W.subIn K (.ref C) (.type "BaseException") = some true) (e2 : PySem.W.typeIn K (.ref C) = some (.type "type")) (e3 : PySem.W.keepIn K (.ref C) = true) : OexC K C ∧ ∃ cd, PySem.W.clsIn K C = some cd := by
  unfold veB at h
  split at h
  · rename_i t dd cd sl lk
    split at h
    · rename_i C' bm k0 k1 k2 k3 n k5 hm hs
      simp only [Bool.and_eq_true, beq_iff_eq, Bool.not_eq_true'] at h
      obtain ⟨rfl, rfl, rfl, hdel, hdict, hr⟩ := h
      have hcl : ∃ cd, PySem.W.clsIn K C' = some cd := ⟨cd, by unfold PySem.W.clsIn; rw [lk]⟩
      obtain ⟨nm, bs, mro, ns, qn, hd, sn, sub, ab, col, del⟩ := cd
      dsimp only at hm hdel hdict
      subst hm; subst hdel; subst hdict
      have hsl : sl = #[k0, k1, k2, k3, some (.builtin "ValueError.__new__"), k5] := by
        obtain ⟨l⟩ := sl
        simp only at hs
        rw [hs]
      subst hsl
      exact ⟨⟨⟨nm, qn, ns, bs, bm, sn, sub, ab, col, dd, k0, k1, k2, k3, k5, lk, hr⟩, sa, e1, e2, e3⟩, hcl⟩
    · cases h
  · cases h
/-- what the places and the scope of the written __init__ must be -/
structure ExP (P : Program) (d : ExD) : Prop where
  body : ∃ q : Fin 15 → Pos, defBody d.st = initBody d.f1 d.f2 q ∧ IniP d.f1 d.f2 q (d.cls ++ ".__init__") (defScope d.st)
  ar : ∃ ar, ((defArgs d.st).posonlyargs ++ (defArgs d.st).args).head? = some ar ∧ ar.arg = "self"
  kind : (defScope d.st).kind = .function
  co : (defScope d.st).isCoroutine = false
  gen : (defScope d.st).isGenerator = false
  nc : ∀ x ∈ (defScope d.st).names, x.2 ≠ .cell
  su : (defScope d.st).names.lookup ("super" : Str) = some .globalImplicit
  cl : (defScope d.st).names.lookup ("__class__" : Str) = some .free
  se : (defScope d.st).names.lookup ("self" : Str) = some .local
  l1 : (defScope d.st).names.lookup d.f1 = some .local
  l2 : (defScope d.st).names.lookup d.f2 = some .local
  top : (P.main.scope.names.lookup ("super" : Str)).isSome = false
  d12 : d.f1 ≠ d.f2
  ds1 : d.f1 ≠ "self"
  ds2 : d.f2 ≠ "self"
  b1 : (d.f1 == ("__debug__" : Str)) = false
  b2 : (d.f2 == ("__debug__" : Str)) = false
  bind : ∀ (kV doc pm cdv ct : Value) (an : Option Addr) (cl : List (Str × Addr)) (us : List Value), us.length = 3 → bindArgs (PySem.W.fnX "__init__" (d.cls ++ ".__init__") (defArgs d.st) (defBody d.st) (defScope d.st) cl .none kV doc pm an cdv ct) ⟨us, []⟩ = pure ((["self", d.f1, d.f2] : List Str).zip us)
theorem exc_of {P : Program} {K : PySem.W.Frag} [WC K] {h : Heap} {mg : Str → Option Value} {d : ExD} (X : K.In h) (G : h.Ns mainGlobals mg) (e : fnI K d.cls = d.val) (c : exB P.main.file K d = true) (p : ExP P d) : Exc P K mg (fun x => some (He.ga K x)) d.cls d.f1 d.f2 := by
  unfold exB at c
  simp only [Bool.and_eq_true, decide_eq_true_eq] at c
  obtain ⟨c1, c2, c3, c4, c5, c6, c7, c8, c9, c10, c11, c12, c13, c14, c15, c16, c17, c18⟩ := c
  obtain ⟨oex, cd, hcd⟩ := oex_of c2 (He.eqO_ok c3) c4 c5 c6
  unfold fnI at e
  unfold codB at c18
  cases q : K.lookup (He.ma K (He.ga K d.cls) "__init__") with
  | none => rw [q] at e; cases e
  | some o =>
    obtain ⟨oc, od, dt, osl⟩ := o
    rw [q] at e c18
    cases dt with
    | func fd =>
      obtain ⟨n1, n2, n3, n4, n5, n6, n7, n8, n9, n10, n11, n12, n13, n14, n15⟩ := fd
      have e2 : (some (n1, n2, n3, n4, n5, n6, n7.map (·.1), n15, n8) : FnI) = some (("__init__" : Str), d.cls ++ ".__init__", defArgs d.st, .stmts (defBody d.st), defScope d.st, mainGlobals, ([("__class__" : Str)] : List Str), builtinsNs, .none) := e
      simp only [Option.some.injEq, Prod.mk.injEq] at e2
      obtain ⟨h1, h2, h3, h4, h5, h6, h7, h8, h9⟩ := e2
      subst h1 h2 h3 h4 h5 h6 h8 h9
      have c18 : (PySem.W.codeIn K n13 (d.cls ++ ".__init__") && (codB1 P.main.file K n13 && codB2 K (He.ga K d.cls) n7)) = true := c18
      rw [Bool.and_eq_true, Bool.and_eq_true] at c18
      obtain ⟨k1, k2, k3⟩ := c18
      obtain ⟨cda, rfl⟩ := He.codeIn_ref k1
      match n7, h7, k3 with
      | [(nm, cc)], h7, k3 =>
        have enm : nm = "__class__" := (List.cons.inj h7).1
        subst enm
        obtain ⟨qq, hb, hpl⟩ := p.body
        refine ⟨He.ga K d.cls, He.ma K (He.ga K d.cls) "__init__", PySem.W.ksFn "__init__" (d.cls ++ ".__init__") (defArgs d.st) (defBody d.st) (defScope d.st) .none n9 n10 n11 n12 (.ref cda) n14 cc, PySem.W.mg_of X G (He.eqO_ok c1), rfl, { fn := ?_, cls := oex, ns := ⟨cd, hcd, c9, He.eqO_ok c10, c11⟩, op := He.eqO_ok c12, sup := He.eqO_ok c13, top := p.top, n1 := He.eqO_ok c14, n2 := He.eqO_ok c15, ini := He.eqO_ok c16, ty := c17, d12 := p.d12, ds1 := p.ds1, ds2 := p.ds2, b1 := p.b1, b2 := p.b2 }, ?_, xfB_ok c7, c8⟩
        · refine ⟨oc, od, osl, "__init__", d.cls ++ ".__init__", defArgs d.st, defScope d.st, cc, cda, qq, .none, n9, n10, n11, n14, n12, by rw [← hb], q, k1, p.ar, ?_, ?_, p.kind, p.co, p.gen, p.nc, p.su, p.cl, p.se, p.l1, p.l2, hpl⟩
          · unfold codB1 at k2
            simp only at k2
            cases q2 : K.lookup cda with
            | none => rw [q2] at k2; cases k2
            | some o2 =>
              obtain ⟨oc2, od2, dt2, osl2⟩ := o2
              rw [q2] at k2
              cases dt2 with
              | fields vs =>
                simp only at k2
                cases q3 : vs[2]? with
                | none => rw [q3] at k2; cases k2
                | some v =>
                  rw [q3] at k2
                  cases v with
                  | str fl tf => exact ⟨vs, fl, tf, oc2, od2, osl2, rfl, q3, k2⟩
                  | _ => cases k2
              | _ => cases k2
          · unfold codB2 at k3
            simp only at k3
            cases q2 : K.lookup cc with
            | none => rw [q2] at k3; cases k3
            | some o2 =>
              obtain ⟨oc2, od2, dt2, osl2⟩ := o2
              rw [q2] at k3
              cases dt2 with
              | cell v =>
                cases v with
                | none => cases k3
                | some u =>
                  cases u with
                  | ref D =>
                    have eD : D = He.ga K d.cls := beq_iff_eq.mp k3
                    subst eD
                    exact ⟨oc2, od2, osl2, rfl⟩
                  | _ => cases k3
              | _ => cases k3
        · exact .all fun us hl => p.bind n9 n10 n11 (.ref cda) n14 n12 [("__class__", cc)] us hl
    | _ => cases e
end RB
namespace RB
open PySem PySem.Spec PyProof.Rows L2
/-! ### the Hook -/
structure SaysR (fa : List He.Fa) (fn : List He.DefD) (xs : List ExD) (file : Str) (h : Heap) (K : PySem.W.Frag) : Prop where
  t : He.SaysD fa fn K
  ini : xs.map (fun d => fnI K d.cls) = xs.map ExD.val
  ex : xs.all (exB file K) = true
  tt : ttB K = true
  hd : ∀ p ∈ csOf K, PySem.W.codeHdIn K p.1 p.2 = true
  out : ∀ p ∈ csOf K, K.lookup p.2 = none
  empty : ∀ p ∈ csOf K, h.get? p.2 = some { cls := .none, data := .fields #[] }
theorem SaysR.exc {P : Program} {fa : List He.Fa} {fn : List He.DefD} {xs : List ExD} {h h' : Heap} {K : PySem.W.Frag} [WC K] {mg : Str → Option Value} (c : SaysR fa fn xs P.main.file h K) (X : K.In h') (G : h'.Ns mainGlobals mg) (i : Nat) {d : ExD} (hi : xs[i]? = some d) (p : ExP P d) : Exc P K mg (fun x => some (He.ga K x)) d.cls d.f1 d.f2 := by
  refine exc_of X G ?_ (List.all_eq_true.mp c.ex d (List.mem_of_getElem? hi)) p
  have e2 : (xs.map fun d => fnI K d.cls)[i]? = (xs.map ExD.val)[i]? := by rw [c.ini]
  rw [List.getElem?_map, List.getElem?_map, hi] at e2
  exact Option.some.inj e2
theorem SaysR.tabs {fa : List He.Fa} {fn : List He.DefD} {xs : List ExD} {file : Str} {h base : Heap} {K : PySem.W.Frag} [WC K] {mg : Str → Option Value} (c : SaysR fa fn xs file h K) (hTB : ∀ p ∈ csOf K, LamX.TabB base mg p.1 p.2) : TabsOk K mg base :=
  ⟨ttB_ok c.tt, fun f o fd c lk hd hc => hTB _ (cs_mem lk hd hc)⟩
end RB
end
/-! text RMore5 -/
section
set_option Elab.async false
set_option linter.all false
set_option maxRecDepth 100000
set_option maxHeartbeats 4000000
/-! RMore5: while; pop; sum; dicts of the shared store. -/
namespace RB
open PySem PySem.Spec PyProof.Rows L2
/-! ### while -/
end RB
namespace RB
open PySem PySem.Spec PyProof.Rows L2
/-! ### xs.pop() -/
def intsOf : List D → Option (List Int)
  | [] => some []
  | .int i :: xs => (intsOf xs).map (i :: ·)
  | _ => none
def c_sum (rs : List Rv) (T S : Sto) : Res Rv := match rs with
  | [r] => (match look r T S with
    | some (.list xs) => (match intsOf xs with
      | some ns => .ok (.v (.int ns.sum)) T S
      | none => .bad)
    | _ => .bad)
  | _ => .bad
end RB
end
/-! text RMore6 -/
section
set_option Elab.async false
set_option linter.all false
set_option maxRecDepth 100000
set_option maxHeartbeats 4000000
/-! RMore6: enumerate of a tuple. -/
namespace RB
open PySem PySem.Spec PyProof.Rows L2
def enumTM (ms : EM (List Rv)) : EM (List D) := fun ρ T S => (ms ρ T S).bind fun rs T S => match rs with
  | [.v (.tuple xs)] => .ok (enumD xs) T S
  | _ => .bad
end RB
end
/-! text RMore7 -/
section
set_option Elab.async false
set_option linter.all false
set_option maxRecDepth 100000
set_option maxHeartbeats 4000000
/-! RMore7: dicts of a frame's own, frozen dicts. -/
namespace RB
open PySem PySem.Spec PyProof.Rows L2
def dicR (r : Rv) (T S : Sto) : Option (List (Key × D)) := match r with
  | .frd kvs => some kvs
  | .frk kvs => some kvs
  | .own n => obDic T[n]?
  | .loc n => obDic S[n]?
  | _ => none
def keyR (r : Rv) : Option Key := match r with
  | .v (.str x) => some (.inr x)
  | .v (.int i) => some (.inl i)
  | _ => none
def keyD : Key → D
  | .inl i => .int i
  | .inr x => .str x
/-- d[key] of any dict -/
def dgetX (a b : Rv) (T S : Sto) : Res Rv := match dicR a T S, keyR b with
  | some kvs, some k => (match findD kvs k with | some d => .ok (.v d) T S | none => .bad)
  | _, _ => .bad
section
variable {ct : Str → Option Addr} {X : Cx} [WC X.K] {W : WX} {pos : Pos} {o i e : Expr} {mo mi m : EM Rv}
/-- d[key] = e of a dict of one's own -/
def dputO (md mk m : EM Rv) : SM := fun ρ T S => (m ρ T S).out ρ fun r T S => (md ρ T S).out ρ fun a T S => (mk ρ T S).out ρ fun b T S => match a, keyR b, toD r T with
  | .own n, some k, some (d, T') => (match T'[n]? with
    | some (.dic kvs) => if kvs.length < 16777216 then .next ρ (T'.set n (.dic (putD kvs k d))) S else .bad
    | _ => .bad)
  | _, _, _ => .bad
/-- {} -/
def dnewM : EM Rv := fun _ T S => .ok (.own T.length) (T ++ [.dic []]) S
end
end RB
end
/-! text RMore8 -/
section
set_option Elab.async false
set_option linter.all false
set_option maxRecDepth 100000
set_option maxHeartbeats 4000000
/-! RMore8: dict comprehensions; two fors. -/
namespace RB
open PySem PySem.Spec PyProof.Rows L2
/-! ### {k: v for .. in .. if ..} -/
end RB
end
/-! text RMore9 -/
section
set_option Elab.async false
set_option linter.all false
set_option maxRecDepth 100000
set_option maxHeartbeats 4000000
/-! RMore9: two fors in a comprehension. -/
namespace RB
open PySem PySem.Spec PyProof.Rows L2
section
variable (ct : Str → Option Addr) (K : PySem.W.Frag) [WC K] (W : WX)
def tOfI (m : EM (List D)) : TI := fun σ H R => ∃ ρ T S G L M, Fits K G H L M T S ∧ Sl K G L M ρ σ ∧ Sat ct K W G H L M σ (relI K) R (m ρ T S)
end
theorem SI.canon {ct : Str → Option Addr} {X : Cx} [WC X.K] {W : WX} {tg e : Expr} {m : EM (List D)} (h : SI ct X W tg e m) : PI X tg e (tOfI ct X.K W m) := by
  obtain ⟨t, p, q⟩ := h
  exact ⟨fun pins s σ H R I ⟨ρ, T, S, G, L, M, h1, h2, h3⟩ => p.run pins s σ H R I (q ρ T S G H L M σ R h1 h2 h3)⟩
end RB
end
/-! text RMore10 -/
section
set_option Elab.async false
set_option linter.all false
set_option maxRecDepth 100000
set_option maxHeartbeats 4000000
/-! RMore10: xs.extend(a tuple). -/
namespace RB
open PySem PySem.Spec PyProof.Rows L2
end RB
end
/-! text RLive -/
section
set_option Elab.async false
set_option linter.all false
set_option maxRecDepth 100000
set_option maxHeartbeats 4000000
/-! RLive: walks that look at the store at every turn (a list that is lent, or the frame's own). -/
namespace RB
open PySem PySem.Spec PyProof.Rows L2
/-- what a walk gives at turn i: nothing is known (none), it is at its end (some none), an item; and how many turns there are at most -/
structure NX where
  nx : Nat → Sto → Sto → Option (Option D)
  fuel : Nat
def liveN (w : Nat → D → D) (r : Rv) (i : Nat) (T S : Sto) : Option (Option D) := match lstOf r T S with
  | some xs => some ((xs[i]?).map (w i))
  | none => none
def liveM (w : Nat → D → D) (m : EM Rv) : EM NX := fun ρ T S => (m ρ T S).bind fun r T S => match lstOf r T S with
  | some xs => .ok ⟨liveN w r, xs.length⟩ T S
  | none => .bad
def seqW : Nat → D → D := fun _ d => d
def enumW : Nat → D → D := fun i d => .tuple [.int (i : Int), d]
def liveE (ms : EM (List Rv)) : EM NX := fun ρ T S => (ms ρ T S).bind fun rs T S => match rs with
  | [r] => (match lstOf r T S with
    | some xs => .ok ⟨liveN enumW r, xs.length⟩ T S
    | none => .bad)
  | _ => .bad
/-! ### for -/
def forG (n : Nat → Sto → Sto → Option (Option D)) (g : TgM) (body : SM) : Nat → Nat → SM
  | 0, i, ρ, T, S => match n i T S with
    | some none => .next ρ T S
    | _ => .bad
  | k + 1, i, ρ, T, S => match n i T S with
    | some none => .next ρ T S
    | some (some d) => (match g d ρ with
      | some ρ' => (match body ρ' T S with
        | .next ρ1 T1 S1 => forG n g body k (i + 1) ρ1 T1 S1
        | .cnt ρ1 T1 S1 => forG n g body k (i + 1) ρ1 T1 S1
        | .brk ρ1 T1 S1 => .next ρ1 T1 S1
        | o => o)
      | none => .bad)
    | none => .bad
def forL (items : EM NX) (g : TgM) (body : SM) : SM := fun ρ T S => (items ρ T S).out ρ fun n T S => forG n.nx g body n.fuel 0 ρ T S
/-! ### [.. for ..] -/
def compG (n : Nat → Sto → Sto → Option (Option D)) (g : TgM) (tests : EM Bool) (elt : EM Rv) (ρ : Vn) : Nat → Nat → Sto → Sto → Res (List D)
  | 0, i, T, S => match n i T S with
    | some none => .ok [] T S
    | _ => .bad
  | k + 1, i, T, S => match n i T S with
    | some none => .ok [] T S
    | some (some d) => (match g d ρ with
      | some ρ' => (match tests ρ' T S with
        | .ok true T1 S1 => (match elt ρ' T1 S1 with
          | .ok r T2 S2 => (match toD r T2 with
            | some (d', T3) => (compG n g tests elt ρ k (i + 1) T3 S2).bind fun rs T S => .ok (d' :: rs) T S
            | none => .bad)
          | _ => .bad)
        | .ok false T1 S1 => compG n g tests elt ρ k (i + 1) T1 S1
        | _ => .bad)
      | none => .bad)
    | none => .bad
def lcL (own : Bool) (items : EM NX) (g : TgM) (tests : EM Bool) (elt : EM Rv) (vs : List Nat) : EM Rv := fun ρ T S =>
  (items ρ T S).bind fun n T S => (compG n.nx g tests elt (wipeV ρ vs) n.fuel 0 T S).bind fun rs T S => newL own rs T S
end RB
end
/-! text RLend -/
section
set_option Elab.async false
set_option linter.all false
set_option maxRecDepth 100000
set_option maxHeartbeats 4000000
/-! RLend: a call that is lent one list of the caller's own. -/
namespace RB
open PySem PySem.Spec PyProof.Rows L2
section
variable {K : PySem.W.Frag} [WC K] {G H : Hp} {L M : List Addr} {T S : Sto}
theorem RepRs.monoL {G' : Hp} {L' M' : List Addr} (g : Same G G') (l : L <+: L') (m : M <+: M') : ∀ {xs : List V} {rs : List Rv}, RepRs K G L M xs rs → RepRs K G' L' M' xs rs
  | _, _, .nil => .nil
  | _, _, .cons h r => .cons (h.monoL g l m) (RepRs.monoL g l m r)
end
end RB
end
/-! text RDt -/
section
set_option Elab.async false
set_option linter.all false
set_option maxRecDepth 100000
set_option maxHeartbeats 4000000
/-! RDt: dicts whose keys are tuples of ints and texts. -/
namespace RB
open PySem PySem.Spec PyProof.Rows L2
def findG (kvs : List (List Key × D)) (k : List Key) : Option D := (kvs.find? fun kv => decide (kv.1 = k)).map (·.2)
def putG (kvs : List (List Key × D)) (k : List Key) (d : D) : List (List Key × D) := if (kvs.any fun kv => decide (kv.1 = k)) = true then kvs.map (fun kv => if kv.1 = k then (kv.1, d) else kv) else kvs ++ [(k, d)]
def keysD : List D → Option (List Key)
  | [] => some []
  | .int i :: r => (keysD r).map (Sum.inl i :: ·)
  | .str x :: r => (keysD r).map (Sum.inr x :: ·)
  | _ => none
def tkey (r : Rv) : Option (List Key) := match r with
  | .v (.tuple (d :: ds)) => keysD (d :: ds)
  | _ => none
def obDit (o : Option Ob) : Option (List (List Key × D)) := match o with
  | some (.dit kvs) => some kvs
  | some (.fdt kvs) => some kvs
  | _ => none
def ditR (r : Rv) (T S : Sto) : Option (List (List Key × D)) := match r with
  | .fdt kvs => some kvs
  | .own n => obDit T[n]?
  | .loc n => obDit S[n]?
  | _ => none
/-- d[key], key a tuple -/
def dgetT (a b : Rv) (T S : Sto) : Res Rv := match ditR a T S, tkey b with
  | some kvs, some k => (match findG kvs k with | some d => .ok (.v d) T S | none => .bad)
  | _, _ => .bad
def o_dinT (neg : Bool) (a b : Rv) (T S : Sto) : Res Rv := match ditR b T S, tkey a with
  | some kvs, some k => .ok (.v (.bool (neg != (findG kvs k).isSome))) T S
  | _, _ => .bad
section
variable {ct : Str → Option Addr} {X : Cx} [WC X.K] {W : WX} {pos : Pos} {o i e : Expr} {mo mi m : EM Rv}
/-- d[key] = e of a dict of one's own, key a tuple -/
def dputT (md mk m : EM Rv) : SM := fun ρ T S => (m ρ T S).out ρ fun r T S => (md ρ T S).out ρ fun a T S => (mk ρ T S).out ρ fun b T S => match a, tkey b, toD r T with
  | .own n, some k, some (d, T') => (match T'[n]? with
    | some (.dit kvs) => if kvs.length < 16777216 then .next ρ (T'.set n (.dit (putG kvs k d))) S else .bad
    | _ => .bad)
  | _, _, _ => .bad
/-- {} whose keys will be tuples -/
def dnewT : EM Rv := fun _ T S => .ok (.own T.length) (T ++ [.dit []]) S
/-- d.get(key, e), key an int or a text -/
def dgetOr (md mk m : EM Rv) : EM Rv := fun ρ T S => (md ρ T S).bind fun a T S => if (dicR a T S).isSome = true then (mk ρ T S).bind fun b T S => (m ρ T S).bind fun r T S => match dicR a T S, keyR b, r with
  | some kvs, some k, .v z => .ok (.v ((findD kvs k).getD z)) T S
  | _, _, _ => .bad else .bad
end
end RB
end
/-! text RDc -/
section
set_option Elab.async false
set_option linter.all false
set_option maxRecDepth 100000
set_option maxHeartbeats 4000000
/-! RDc: {key: value for ..} whose keys are tuples. -/
namespace RB
open PySem PySem.Spec PyProof.Rows L2
end RB
end
/-! text RDc2 -/
section
set_option Elab.async false
set_option linter.all false
set_option maxRecDepth 100000
set_option maxHeartbeats 4000000
/-! RDc2: dict comprehensions, over any walk; name = {..}. -/
namespace RB
open PySem PySem.Spec PyProof.Rows L2
/-! ### the mirror -/
def dctG (n : Nat → Sto → Sto → Option (Option D)) (g : TgM) (tests : EM Bool) (kx vx : EM Rv) (ρ : Vn) : Nat → Nat → List (List Key × D) → Sto → Sto → Res (List (List Key × D))
  | 0, i, acc, T, S => match n i T S with
    | some none => .ok acc T S
    | _ => .bad
  | k + 1, i, acc, T, S => match n i T S with
    | some none => .ok acc T S
    | some (some d) => (match g d ρ with
      | some ρ' => (match tests ρ' T S with
        | .ok true T1 S1 => (match kx ρ' T1 S1 with
          | .ok kr T2 S2 => (match tkey kr with
            | some kk => (match vx ρ' T2 S2 with
              | .ok r T3 S3 => (match toD r T3 with
                | some (d', T4) => if acc.length < 16777216 then dctG n g tests kx vx ρ k (i + 1) (putG acc kk d') T4 S3 else .bad
                | none => .bad)
              | _ => .bad)
            | none => .bad)
          | _ => .bad)
        | .ok false T1 S1 => dctG n g tests kx vx ρ k (i + 1) acc T1 S1
        | _ => .bad)
      | none => .bad)
    | none => .bad
def dctL (items : EM NX) (g : TgM) (tests : EM Bool) (kx vx : EM Rv) (vs : List Nat) : EM Rv := fun ρ T S =>
  (items ρ T S).bind fun n T S => (dctG n.nx g tests kx vx (wipeV ρ vs) n.fuel 0 [] T S).bind fun kvs T S => .ok (.own T.length) (T ++ [.dit kvs]) S
end RB
end
/-! text RDn -/
section
set_option Elab.async false
set_option linter.all false
set_option maxRecDepth 100000
set_option maxHeartbeats 4000000
/-! RDn: dicts whose keys are tuples of any depth. -/
namespace RB
open PySem PySem.Spec PyProof.Rows L2
/-! ### below -/
abbrev NV := NestedKey × Addr × V
/-! ### the mirror -/
section
variable {K : PySem.W.Frag} [WC K] {G H : Hp} {L M : List Addr} {T S : Sto} {x : V} {r : Rv}
theorem RepN.len : ∀ {ws : List NV} {kvs : List (D × D)}, RepN K G ws kvs → ws.length = kvs.length
  | _, _, .nil => rfl
  | _, _, .cons _ _ _ _ r => by rw [List.length_cons, List.length_cons, RepN.len r]
end
end RB
end
/-! text RSet3 -/
section
set_option Elab.async false
set_option linter.all false
set_option maxRecDepth 100000
set_option maxHeartbeats 4000000
/-! RSet3: sorted(set(a tuple of texts)). -/
namespace RB
open PySem PySem.Spec PyProof.Rows L2
end RB
end
/-! text RPut -/
section
set_option Elab.async false
set_option linter.all false
set_option maxRecDepth 100000
set_option maxHeartbeats 4000000
/-! RPut: xs[i] = v on an own list. -/
namespace RB
open PySem PySem.Spec PyProof.Rows L2
def lputO (md mk m : EM Rv) : SM := fun ρ T S => (m ρ T S).out ρ fun r T S => (md ρ T S).out ρ fun a T S => (mk ρ T S).out ρ fun b T S => match a, b, toD r T with
  | .own n, .v (.int i), some (d, T') => (match T'[n]? with
    | some (.lst xs) => (match ixN xs.length i with
      | some j => .next ρ (T'.set n (.lst (xs.set j d))) S
      | none => .bad)
    | _ => .bad)
  | _, _, _ => .bad
end RB
end
/-! text RTset -/
section
set_option Elab.async false
set_option linter.all false
set_option maxRecDepth 100000
set_option maxHeartbeats 4000000
/-! RTset: sets of tuples of texts. -/
namespace RB
open PySem PySem.Spec PyProof.Rows L2
/-- the tuple at b has the texts k -/
abbrev UK (P : Program) (w : World) (h : Heap) (k : List Str) (b : Addr) : Prop := IsTupleKey (strKind P w) h k b
abbrev uH (P : Program) (w : World) (k : List Str) : Int := tupleKeyHash (strKind P w) k
end RB
end
/-! text RTset2 -/
section
set_option Elab.async false
set_option linter.all false
set_option maxRecDepth 100000
set_option maxHeartbeats 4000000
namespace RB
open PySem PySem.Spec PyProof.Rows L2
section
variable {P : Program} {w : World} {A : Around} {E : Value → Shared → Prop} {s : Shared}
/-! ### the set -/
/-- what stands in the table: where a tuple lies, and its texts -/
abbrev Ent := Addr × List Str
def entOf (P : Program) (w : World) (p : Ent) : Int × Value := (uH P w p.2, .ref p.1)
structure USet (P : Program) (w : World) (h : Heap) (a : Addr) (L : List Ent) (es : Array (Int × Value)) (ep : Nat) (t : SetTable) : Prop where
  at_ : ∃ o, h.get? a = some o ∧ o.ExactSet ∧ o.data = .set es ep t
  ents : es.toList = L.map (entOf P w)
  tab : TabOk t (L.map fun p => uH P w p.2)
  nd : (L.map (·.2)).Nodup
  keys : ∀ p ∈ L, UK P w h p.2 p.1
  led : w.params.followText "set-order" = true ∨ t.led = true
  room : L.length * 5 < t.mask * 3
  few : L.length < 64
variable {a : Addr} {L : List Ent} {es : Array (Int × Value)} {ep : Nat} {t : SetTable}
theorem USet.len {h : Heap} (U : USet P w h a L es ep t) : es.size = L.length := by rw [← Array.length_toList, U.ents, List.length_map]
theorem USet.get {h : Heap} (U : USet P w h a L es ep t) {i : Nat} {p : Ent} (e : L[i]? = some p) : es[i]? = some (entOf P w p) := by
  rw [← Array.getElem?_toList, U.ents, List.getElem?_map, e]
  rfl
abbrev start (t : SetTable) (h : Int) : SetTable.Probe := runAt t.mask (SetTable.bits h % (t.mask + 1)) (SetTable.bits h)
end
end RB
end
/-! text RTset3 -/
section
set_option Elab.async false
set_option linter.all false
set_option maxRecDepth 100000
set_option maxHeartbeats 4000000
namespace RB
open PySem PySem.Spec PyProof.Rows L2
end RB
end
/-! text RTset4 -/
section
set_option Elab.async false
set_option linter.all false
set_option maxRecDepth 100000
set_option maxHeartbeats 4000000
namespace RB
open PySem PySem.Spec PyProof.Rows L2
end RB
end
/-! text RTset5 -/
section
set_option Elab.async false
set_option linter.all false
set_option maxRecDepth 100000
set_option maxHeartbeats 4000000
namespace RB
open PySem PySem.Spec PyProof.Rows L2
end RB
end
/-! text RTset6 -/
section
set_option Elab.async false
set_option linter.all false
set_option maxRecDepth 100000
set_option maxHeartbeats 4000000
namespace RB
open PySem PySem.Spec PyProof.Rows L2
/-- the set at a has got just the keys of ks -/
def SU (P : Program) (w : World) (h : Heap) (a : Addr) (ks : List Ent) : Prop := ∃ L es ep t, USet P w h a L es ep t ∧ (∀ p ∈ L, p ∈ ks) ∧ (∀ k, k ∈ L.map (·.2) ↔ k ∈ ks.map (·.2)) ∧ L.length ≤ ks.length
theorem SU.keep {P : Program} {w : World} {h h' : Heap} {a : Addr} {ks : List Ent} (u : SU P w h a ks) (ea : ∀ o, h.get? a = some o → h'.get? a = some o) (ek : ∀ p ∈ ks, UK P w h' p.2 p.1) : SU P w h' a ks := by
  obtain ⟨L, es, ep, t, U, u1, u2, u3⟩ := u
  obtain ⟨o, ho, r⟩ := U.at_
  exact ⟨L, es, ep, t, ⟨⟨o, ea o ho, r⟩, U.ents, U.tab, U.nd, fun p hp => ek p (u1 p hp), U.led, U.room, U.few⟩, u1, u2, u3⟩
end RB
end
/-! text RTset7 -/
section
set_option Elab.async false
set_option linter.all false
set_option maxRecDepth 100000
set_option maxHeartbeats 4000000
namespace RB
open PySem PySem.Spec PyProof.Rows L2
end RB
end
/-! text RTset8 -/
section
set_option Elab.async false
set_option linter.all false
set_option maxRecDepth 100000
set_option maxHeartbeats 4000000
namespace RB
open PySem PySem.Spec PyProof.Rows L2
/-! ### the order of tuples of texts -/
def tupD (k : List Str) : D := .tuple (k.map .str)
def ltU : List Str → List Str → Bool
  | [], [] => false
  | [], _ :: _ => true
  | _ :: _, [] => false
  | a :: as, b :: bs => if a = b then ltU as bs else decide (a.cps.toList < b.cps.toList)
def leU (a b : List Str) : Bool := !ltU b a
def sortU (xs : List (List Str)) : List (List Str) := xs.mergeSort leU
/-! ### the tuples met, each once -/
def metU (xs : List (List Str)) : List (List Str) := xs.foldl (fun σ x => if x ∈ σ then σ else σ ++ [x]) []
end RB
end
/-! text RTset9 -/
section
set_option Elab.async false
set_option linter.all false
set_option maxRecDepth 100000
set_option maxHeartbeats 4000000
namespace RB
open PySem PySem.Spec PyProof.Rows L2
end RB
end
/-! text RTset10 -/
section
set_option Elab.async false
set_option linter.all false
set_option maxRecDepth 100000
set_option maxHeartbeats 4000000
namespace RB
open PySem PySem.Spec PyProof.Rows L2
/-! ### sorted(set(xs)), xs a list of tuples of texts -/
def tupK : D → Option (List Str)
  | .tuple (y :: ys) => strsD (y :: ys)
  | _ => none
def tupsK : List D → Option (List (List Str))
  | [] => some []
  | d :: ds => match tupK d, tupsK ds with
    | some k, some ks => some (k :: ks)
    | _, _ => none
def sortSetUM (m : EM Rv) : EM Rv := fun ρ T S => (m ρ T S).bind fun r T S => match look r T S with
  | some (.list xs) => (match tupsK xs with
    | some ks => if ks.length < 63 then .ok (.v (.list ((sortU (metU ks)).map tupD))) T S else .bad
    | none => .bad)
  | _ => .bad
end RB
end
/-! text RDef -/
section
set_option Elab.async false
set_option linter.all false
set_option maxRecDepth 100000
set_option maxHeartbeats 4000000
/-! RDef: defs whose last positional parameters have defaults. -/
namespace RB
open PySem PySem.Spec PyProof.Rows L2
/-- a def whose last positional parameters may be left out -/
def DfnP (P : Program) (w : World) (K : PySem.W.Frag) [WC K] (mg : Str → Option Value) (base : Heap) (ct : Str → Option Addr) (x : Str) (k n np : Nat) (dfl : List D) (fm : FM) : Prop :=
  ∃ f fd ps, FnOk P w K mg base (L2.CX P w) k f fd ps (spF ct K n fm) ∧ PySem.W.keepIn K (.ref f) = true ∧ mg x = some (.ref f) ∧
    (∃ (ds : List Value) (dvs : List V), Binds K fd ps ds ∧ Vals dvs ds ∧ n = np + dvs.length ∧ ∀ G, Reps K G dvs dfl) ∧ Binds K fd ps []
theorem DfnP.all {P : Program} {w : World} {K : PySem.W.Frag} [WC K] {mg : Str → Option Value} {base : Heap} {ct : Str → Option Addr} {x : Str} {k n np : Nat} {dfl : List D} {fm : FM} (d : DfnP P w K mg base ct x k n np dfl fm) : Dfn P w K mg base ct x k n fm := by
  obtain ⟨f, fd, ps, F, kp, hm, _, hb⟩ := d
  exact ⟨f, fd, ps, F, kp, hb, hm⟩
end RB
end
/-! text RHead3 -/
section
set_option Elab.async false
set_option linter.all false
set_option maxRecDepth 100000
set_option maxHeartbeats 4000000
/-! RHead3: the head, with keyword-only defaults that are the empty tuple. -/
namespace RB
open PySem PySem.Spec PyProof.Rows L2
structure SaysE (fa : List He.Fa) (fn : List He.DefD) (xs : List ExD) (em : List (Str × Str)) (file : Str) (h : Heap) (K : PySem.W.Frag) : Prop where
  r : SaysR fa fn xs file h K
  em : ∀ p ∈ em, emB K p = true
end RB
end
/-! text RHead4 -/
section
set_option Elab.async false
set_option linter.all false
set_option maxRecDepth 100000
set_option maxHeartbeats 4000000
/-! RHead4: the hook over a written list of addresses. -/
namespace RB
open PySem PySem.Spec PyProof.Rows L2
theorem ascB_lt : ∀ {l : List (Addr × Str)} {n : Nat}, ascB n l = true → ∀ p ∈ l, n < p.1
  | [], _, _, p, hp => by cases hp
  | q :: r, n, h, p, hp => by
    unfold ascB at h
    rw [HandSHeadRun.frNat_eq, Bool.and_eq_true] at h
    have h1 : n < q.1 := Nat.le_of_ble_eq_true h.1
    rcases List.mem_cons.mp hp with rfl | hp
    · exact h1
    · exact Nat.lt_trans h1 (ascB_lt h.2 p hp)
theorem ascB_tt : ∀ {l : List (Addr × Str)} {n : Nat}, ascB n l = true → ∀ p ∈ l, ∀ q ∈ l, p.1 = q.1 → p = q
  | [], _, _, p, hp => by cases hp
  | x :: r, n, h, p, hp0 => fun q hq0 e => by
    unfold ascB at h
    rw [HandSHeadRun.frNat_eq, Bool.and_eq_true] at h
    rcases List.mem_cons.mp hp0 with rfl | hp <;> rcases List.mem_cons.mp hq0 with rfl | hq
    · rfl
    · exact absurd e (Nat.ne_of_lt (ascB_lt h.2 q hq))
    · exact absurd e.symm (Nat.ne_of_lt (ascB_lt h.2 p hp))
    · exact ascB_tt h.2 p hp q hq e
theorem ttB_of {K : PySem.W.Frag} (h : ascB 0 (ttOf K) = true) : ttB K = true := by
  unfold ttB
  refine List.all_eq_true.mpr fun p hp => List.all_eq_true.mpr fun q hq => ?_
  rw [Bool.or_eq_true, Bool.not_eq_true', beq_eq_false_iff_ne, decide_eq_true_eq]
  by_cases e : p.1 = q.1
  · exact .inr (by rw [ascB_tt h p hp q hq e])
  · exact .inl e
theorem saysL_of {as : List Addr} {fa : List He.Fa} {fn : List He.DefD} {xs : List ExD} {em : List (Str × Str)} {file : Str} {h : Heap} (e : obsL as fa fn xs em file h.get? = valE fn xs) : SaysE fa fn xs em file h (He.frT h.get? as) := by
  obtain ⟨e, em1⟩ := Prod.mk.inj e
  obtain ⟨e1, e2⟩ := Prod.mk.inj e
  obtain ⟨e2, e3⟩ := Prod.mk.inj e2
  rw [Bool.and_eq_true, Bool.and_eq_true] at e3
  obtain ⟨h1, h2, h3⟩ := e3
  have key : ∀ p ∈ csOf (He.frT h.get? as), PySem.W.codeHdIn (He.frT h.get? as) p.1 p.2 = true ∧ ∃ o, h.get? p.2 = some o ∧ He.emptyTab o = true := fun p hp => by
    have h4 := List.all_eq_true.mp h3 p hp
    rw [Bool.and_eq_true] at h4
    refine ⟨h4.1, ?_⟩
    cases q : h.get? p.2 with
    | none => have h5 := h4.2; rw [q] at h5; cases h5
    | some o => have h5 := h4.2; rw [q] at h5; exact ⟨o, rfl, h5⟩
  exact ⟨⟨e1, e2, h1, ttB_of h2, fun p hp => (key p hp).1, fun p hp => let ⟨_, o, q, z⟩ := key p hp; He.frT_none q z, fun p hp => let ⟨_, o, q, z⟩ := key p hp; by rw [q, He.emptyTab_eq z]⟩, List.all_eq_true.mp em1⟩
end RB
end
/-! text RTry -/
section
set_option Elab.async false
set_option linter.all false
set_option maxRecDepth 100000
set_option maxHeartbeats 4000000
/-! RTry: try: .. except C: .. (no name; the suite raises nothing). -/
namespace RB
open PySem PySem.Spec PyProof.Rows L2
instance wcTr {X : Cx} [h : WC X.K] {pn : List (Addr × Obj)} {xe : Value → Shared → Prop} : WC (X.tr pn xe).K := h
instance wcSu {X : Cx} [h : WC X.K] {a : Addr} {pn : List (Addr × Obj)} : WC (X.suite a pn).K := h
section
variable (ct : Str → Option Addr) (K : PySem.W.Frag) [WC K] (W : WX)
def tOfS (m : SM) : TS := fun E σ H => ∃ ρ T S G L M, Fits K G H L M T S ∧ Sl K G L M ρ σ ∧ SatS ct K W G H L M E (m ρ T S)
end
section
variable {ct : Str → Option Addr} {X : Cx} [WC X.K] {W : WX}
theorem SSs.canon {st : List Stmt} {m : SM} (h : SSs ct X W st m) : PSs X st (tOfS ct X.K W m) := by
  obtain ⟨t, p, q⟩ := h
  exact ⟨fun pins s σ H D I ⟨ρ, T, S, G, L, M, f, sl, hs⟩ => p.run pins s σ H D I (q ρ T S G H L M σ D f sl hs)⟩
end
end RB
end
/-! text RIns -/
section
set_option Elab.async false
set_option linter.all false
set_option maxRecDepth 100000
set_option maxHeartbeats 4000000
/-! RIns: instances of the classes of the text, things of the shared store. -/
namespace RB
open PySem PySem.Spec PyProof.Rows L2
section
variable {K : PySem.W.Frag} [WC K] {G H : Hp} {L M : List Addr} {T S : Sto}
/-- a new thing of the shared store -/
theorem Fits.newL {p : Addr} {u : HO} {o : Ob} (f : Fits K G H L M T S) (hp : H p = none) (ho : ROb K L [] G (upd H p u) p o) (hu : ∀ ps, u ≠ .tbl ps) :
    Ext G H L M G (upd H p u) (L ++ [p]) M ∧ Fits K G (upd H p u) (L ++ [p]) M T (S ++ [o]) := by
  obtain ⟨nl, nm⟩ := f.fresh hp
  have up : ∀ a x, H a = some x → upd H p u a = some x := fun a x h => by rw [upd_ne (ne_of_none h hp)]; exact h
  have sz := f.lenL
  refine ⟨⟨Same.refl G, List.prefix_append L [p], List.prefix_refl M, fun a x h _ _ _ => up a x h, fun a x h nt => ⟨x, up a x h, nt⟩, fun a x h => .inl h, fun a h => ?_, fun _ h => .inl h⟩,
    ⟨f.sub.trans up, ?_, by rw [List.length_append, List.length_append, sz]; rfl, f.lenM, fun n a q e1 e2 => ?_, fun n a q e1 e2 => ROb.mono (List.prefix_append L [p]) (Same.refl G) (fun z => z) (fun z hz => up a z hz) (f.obM n a q e1 e2), tbs_same f.tbs up (tbl_new hu)⟩⟩
  · rcases List.mem_append.mp h with z | z
    · exact .inl z
    · exact .inr (.inl (by rw [List.mem_singleton.mp z]; exact hp))
  · have pm : (L ++ [p] ++ M).Perm (p :: (L ++ M)) := by rw [List.append_assoc]; exact List.perm_middle
    exact pm.nodup_iff.mpr (List.nodup_cons.mpr ⟨fun z => (List.mem_append.mp z).elim nl nm, f.nd⟩)
  · by_cases hn : n < L.length
    · rw [List.getElem?_append_left hn] at e1
      rw [List.getElem?_append_left (by omega)] at e2
      exact ROb.mono (List.prefix_append L [p]) (Same.refl G) (fun z => z) (fun z hz => up a z hz) (f.obL n a q e1 e2)
    · have e3 := lt_of_get e1
      rw [List.length_append, List.length_singleton] at e3
      obtain rfl : n = L.length := by omega
      rw [List.getElem?_concat_length] at e1
      rw [sz, List.getElem?_concat_length] at e2
      cases e1; cases e2
      exact ROb.mono (List.prefix_append L [p]) (Same.refl G) (fun z => z) (fun _ z => z) ho
/-- a new instance without fields -/
theorem Fits.newI {x dx : Addr} (cls : Str) (f : Fits K G H L M T S) (hx : H x = none) (hd : H dx = none) (ne : dx ≠ x) :
    Ext G H L M G (upd (upd H dx (.own x)) x (.ins (He.ga K cls) dx [])) (L ++ [x]) M ∧ Fits K G (upd (upd H dx (.own x)) x (.ins (He.ga K cls) dx [])) (L ++ [x]) M T (S ++ [.ins cls []]) := by
  obtain ⟨e1, f1⟩ := f.kept (H' := upd H dx (.own x)) (fun b u hb => by rw [upd_ne (ne_of_none hb hd)]; exact hb) (tbl_new fun _ z => by cases z)
  obtain ⟨e2, f2⟩ := f1.newL (p := x) (u := .ins (He.ga K cls) dx []) (o := .ins cls []) (by rw [upd_ne (Ne.symm ne)]; exact hx) ⟨dx, [], upd_same, f1.sub.free (by rw [upd_ne (Ne.symm ne)]; exact hx), trivial⟩ (fun _ z => by cases z)
  exact ⟨e1.trans e2, f2⟩
theorem fld_lookup {f : Str} {r : Rv} : ∀ {ws : List (Str × V)} {fs : List (Str × Rv)}, FldOk K G L ws fs → fs.lookup f = some r → ∃ x, ws.lookup f = some x ∧ RepF K G L x r
  | [], [], _, e => by cases e
  | [], _ :: _, h, _ => (show False from h).elim
  | _ :: _, [], h, _ => (show False from h).elim
  | (g, x) :: ws, (g', q) :: fs, h, e => by
    obtain ⟨e1, h1, h2⟩ := h
    have e1 : g = g' := e1
    subst e1
    rw [lk_cons] at e ⊢
    by_cases z : f = g
    · rw [if_pos z] at e ⊢
      cases e
      exact ⟨x, rfl, h1⟩
    · rw [if_neg z] at e ⊢
      exact fld_lookup h2 e
theorem FldOk.len : ∀ {ws : List (Str × V)} {fs : List (Str × Rv)}, FldOk K G L ws fs → ws.length = fs.length
  | [], [], _ => rfl
  | [], _ :: _, h => (show False from h).elim
  | _ :: _, [], h => (show False from h).elim
  | _ :: ws, _ :: fs, h => by rw [List.length_cons, List.length_cons, FldOk.len h.2.2]
/-- a field is set -/
def putFd (f : Str) (r : Rv) : List (Str × Rv) → List (Str × Rv)
  | [] => [(f, r)]
  | p :: fs => if p.1 = f then (p.1, r) :: fs else p :: putFd f r fs
theorem fld_put {f : Str} {r : Rv} {y : V} (hr : RepF K G L y r) : ∀ {ws : List (Str × V)} {fs : List (Str × Rv)}, FldOk K G L ws fs → FldOk K G L (putF f y ws) (putFd f r fs)
  | [], [], _ => ⟨rfl, hr, trivial⟩
  | [], _ :: _, h => (show False from h).elim
  | _ :: _, [], h => (show False from h).elim
  | (g, x) :: ws, (g', q) :: fs, h => by
    obtain ⟨e1, h1, h2⟩ := h
    have e1 : g = g' := e1
    subst e1
    unfold putF putFd
    by_cases z : g = f
    · simp only [if_pos z]; exact ⟨rfl, hr, h2⟩
    · simp only [if_neg z]; exact ⟨rfl, h1, fld_put hr h2⟩
theorem RepF.rep {x : V} {r : Rv} (h : RepF K G L x r) : RepR K G L M x r := by
  cases r with
  | v d => exact h
  | loc n => exact h
  | _ => exact (show False from h).elim
end
/-! ### reading a field -/
/-- the instance of that class at r -/
def insAt (cls : Str) (r : Rv) (S : Sto) : Option (Nat × List (Str × Rv)) := match r with
  | .loc n => (match S[n]? with
    | some (.ins c fs) => if c = cls then some (n, fs) else none
    | _ => none)
  | _ => none
theorem insAt_ok {cls : Str} {r : Rv} {S : Sto} {n : Nat} {fs : List (Str × Rv)} (h : insAt cls r S = some (n, fs)) : r = .loc n ∧ S[n]? = some (.ins cls fs) := by
  unfold insAt at h
  split at h
  · split at h
    · rename_i q
      split at h
      · rename_i hc
        cases h
        subst hc
        exact ⟨rfl, q⟩
      · cases h
    · cases h
  · cases h
def fldO (cls f : Str) (r : Rv) (T S : Sto) : Res Rv := match insAt cls r S with
  | some (_, fs) => (match fs.lookup f with
    | some q => .ok q T S
    | none => .bad)
  | none => .bad
def fldM (cls f : Str) (m : EM Rv) : EM Rv := fun ρ T S => (m ρ T S).bind (fldO cls f)
section
variable {ct : Str → Option Addr} {X : Cx} [WC X.K] {W : WX} {pos apos : Pos} {e o : Expr} {es : List Expr} {m mo : EM Rv} {ms : EM (List Rv)} {cls f : Str}
theorem se_fld (c : Cls X.K (He.ga X.K cls)) (n : NoAttr X.K (He.ga X.K cls) f) (h : SE ct X W e m) (hb : attributeBase e f X.env (eval e X.env) = eval e X.env) : SE ct X W (.Attribute e f pos) (fldM cls f m) := by
  obtain ⟨t, p, q⟩ := h
  refine ⟨_, pe_fld p hb, fun ρ T S G H L M σ Q hl ft sl h => ?_⟩
  refine q ρ T S G H L M σ _ hl ft sl (Sat.bind h fun r T1 S1 G1 H1 L1 M1 x e1 f1 r1 h1 => ?_)
  unfold fldO at h1
  cases ei : insAt cls r S1 with
  | none => rw [ei] at h1; exact (show False from h1).elim
  | some pr =>
    obtain ⟨k, fs⟩ := pr
    rw [ei] at h1
    obtain ⟨rfl, ek⟩ := insAt_ok ei
    cases el : fs.lookup f with
    | none => simp only [el] at h1; exact (show False from h1).elim
    | some r2 =>
      simp only [el] at h1
      obtain ⟨a, ha, rfl⟩ := r1
      obtain ⟨dx, ws, w1, w2, w3⟩ := f1.obL k a _ ha ek
      obtain ⟨y, hy, ry⟩ := fld_lookup w3 el
      exact ⟨a, _, dx, ws, y, rfl, w1, c, n, hy, h1 G1 H1 L1 M1 y (Ext.refl _ _ _ _) f1 ry.rep⟩
/-! ### setting a field -/
def fldV (r : Rv) (T : Sto) : Option (Rv × Sto) := match toA r T with
  | some (.v d, T') => some (.v d, T')
  | some (.loc n, T') => some (.loc n, T')
  | _ => none
theorem fldV_ok {K : PySem.W.Frag} [WC K] {G H : Hp} {L M : List Addr} {T T' S : Sto} {x : V} {r q : Rv} (f : Fits K G H L M T S) (h : RepR K G L M x r) (e : fldV r T = some (q, T')) : ∃ G', Ext G H L M G' H L M ∧ Fits K G' H L M T' S ∧ RepF K G' L x q := by
  unfold fldV at e
  split at e
  · rename_i d T1 e1
    cases e
    obtain ⟨G2, x2, f2, r2⟩ := toA_ok f h e1
    exact ⟨G2, x2, f2, r2⟩
  · rename_i n T1 e1
    cases e
    obtain ⟨G2, x2, f2, r2⟩ := toA_ok f h e1
    exact ⟨G2, x2, f2, r2⟩
  · cases e
def fldS (cls f : Str) (mo m : EM Rv) : SM := fun ρ T S => (m ρ T S).out ρ fun r T S => (mo ρ T S).out ρ fun a T S => match insAt cls a S, fldV r T with
  | some (n, fs), some (q, T') => if fs.length < 1000 then .next ρ T' (S.set n (.ins cls (putFd f q fs))) else .bad
  | _, _ => .bad
theorem ss_fld {pos' : Pos} (c : Cls X.K (He.ga X.K cls)) (n : NoAttr X.K (He.ga X.K cls) f) (ho : SE ct X W o mo) (he : SE ct X W e m) (hs : swapsWith e (some (.Attribute o f pos')) pos.line X.env = pure false) : SS ct X W (.Assign [.Attribute o f pos'] e pos) (fldS cls f mo m) := by
  obtain ⟨t, p, q⟩ := he
  obtain ⟨t1, p1, q1⟩ := ho
  refine ⟨_, ps_fld p1 p hs, fun ρ T S G H L M σ E ft sl h => ?_⟩
  refine q ρ T S G H L M σ _ sl.1 ft sl.2 (SatS.of sl h fun r T1 S1 G1 H1 L1 M1 x e1 f1 r1 h1 => ?_)
  refine q1 ρ T1 S1 G1 H1 L1 M1 σ _ sl.1 f1 (sl.2.mono e1) (SatS.of (sl.mono e1) h1 fun a T2 S2 G2 H2 L2 M2 y e2 f2 r2 h2 => ?_)
  cases ei : insAt cls a S2 with
  | none => simp only [ei] at h2; exact (show False from h2).elim
  | some pr =>
    obtain ⟨k, fs⟩ := pr
    cases ev : fldV r T2 with
    | none => simp only [ei, ev] at h2; exact (show False from h2).elim
    | some pv =>
      obtain ⟨qv, T3⟩ := pv
      simp only [ei, ev] at h2
      split at h2
      · rename_i hlt
        obtain ⟨rfl, ek⟩ := insAt_ok ei
        obtain ⟨G3, x3, f3, r3⟩ := fldV_ok f2 (r1.mono e2) ev
        obtain ⟨b, hb, rfl⟩ := r2
        obtain ⟨dx, ws, w1, w2, w3⟩ := f3.obL k b _ hb ek
        obtain ⟨x4, f4⟩ := f3.setL (u := .ins (He.ga X.K cls) dx (putF f x ws)) (o := .ins cls (putFd f qv fs)) hb w2 ⟨dx, _, upd_same, w2, fld_put r3 w3⟩ (fun _ z => by cases z)
        exact ⟨b, _, dx, ws, rfl, w1, c, n, by rw [w3.len]; exact hlt, h2 _ _ _ _ σ (x3.trans x4) f4 (sl.mono ((e1.trans e2).trans (x3.trans x4)))⟩
      · exact (show False from h2).elim
end
end RB
end
/-! text RIns2 -/
section
set_option Elab.async false
set_option linter.all false
set_option maxRecDepth 100000
set_option maxHeartbeats 4000000
/-! RIns2: an instance is made; its methods, properties; it is called. -/
namespace RB
open PySem PySem.Spec PyProof.Rows L2
section
variable {X : Cx} {k : Nat} {f C : Addr} {sp : Sp} {E : XK} {pins : List (Addr × Obj)} {σ : L2.St} {H : Hp} {s : Shared} {Q : VK} {us : List Value} {vs : List V}
/-- a def runs, what it raises told at these slots -/
theorem runAt (F : FnR X.prog X.w X.K X.mg X.base (L2.CX X.prog X.w) k f sp) (hr : Room k X.A) (hx : PassesAt (L2.CX X.prog X.w) X σ E) (I : Inv X pins σ H s) (r : Vals vs us) (h : sp vs H Q E) :
    codeAny (model X.prog X.w) X.A (.call (.ref f) ⟨us, []⟩) (fun z s' => match z with
      | .ok (.ret v) => EP X pins σ Q v s'
      | .ok _ => False
      | .error e => X.xe e s') s := by
  refine codeAny_mono (F X.A X.stack s H us vs Q E hr I.env0 r h) fun z s' hz => ?_
  match z, hz with
  | .error e, hz => exact hx pins H s e s' I hz
  | .ok (.ret u), hz => exact I.after hz
/-- an instance is made -/
theorem runMk (M : Mk X.K C f) (F : FnR X.prog X.w X.K X.mg X.base (L2.CX X.prog X.w) k f sp) (hr : Room (k + 1) X.A) (hx : PassesAt (L2.CX X.prog X.w) X σ E) (I : Inv X pins σ H s) (r : Vals vs us)
    (h : ∀ x dx, H x = none → H dx = none → dx ≠ x → sp (.ref x :: vs) (upd (upd H dx (.own x)) x (.ins C dx [])) (fun v H2 => v = .non ∧ Q (.ref x) H2) E) :
    wpAny (model X.prog X.w) X.A (call (.ref C) us) (EP X pins σ Q) X.xe s := by
  have b1 : H (s.heap.objs.size + 1) = none := I.hok.fresh (Nat.le_succ _)
  have b2 : H s.heap.objs.size = none := I.hok.fresh (Nat.le_refl _)
  have h := h _ _ b1 b2 (Nat.ne_of_lt (Nat.lt_succ_self _))
  have J := Inv.made (C := C) I
  have vv : Vals (V.ref (s.heap.objs.size + 1) :: vs) (Value.ref (s.heap.objs.size + 1) :: us) := .cons rfl r
  have run := F (X.A.under (.builtin "type.__call__" ⟨.ref C :: us, []⟩)) X.stack _ _ (Value.ref (s.heap.objs.size + 1) :: us) _ _ E (hr.make C us []) (J.env0.make C us []) vv h
  refine wpAny_call (make_map (f := f) I.kIn M.makes M.init (beq_iff_eq.mp M.fn) (codeAny_mono run fun z s' hz => ?_))
  match z, hz with
  | .error e, hz => exact hx pins _ _ e s' J hz
  | .ok (.ret u), hz =>
    obtain ⟨v, H', J3, rv, rfl, q3⟩ := J.after hz
    exact ⟨rv, ⟨V.ref (s.heap.objs.size + 1), H', J3, rfl, q3⟩⟩
end
theorem FnR.of_ok {P : Program} {w : World} {K : PySem.W.Frag} {mg : Str → Option Value} {base : Heap} {CX : CXT} {k : Nat} {f : Addr} {fd : FuncData} {ps : List Str} {sp : Sp} (F : FnOk P w K mg base CX k f fd ps sp) (hb : Binds K fd ps [])
    (hK : ∀ A outer s H, Env0 P w K mg base A outer s H → K.In s.heap) : FnR P w K mg base CX k f sp := fun A outer s H us vs Q E hr e0 r h => by
  have hl : us.length = ps.length := by rw [← r.length]; exact F.len _ _ _ _ h
  have b := hb s us (hK _ _ _ _ e0) (by rw [List.append_nil]; exact hl)
  rw [List.append_nil] at b
  exact F.run A outer s H ⟨us, []⟩ us vs Q E hr e0 b r h
/-- a def that denotes f, as its calls see it -/
def Dfi (P : Program) (w : World) (K : PySem.W.Frag) [WC K] (mg : Str → Option Value) (base : Heap) (ct : Str → Option Addr) (a : Addr) (lev n : Nat) (f : FM) : Prop := ∃ fd ps, FnOk P w K mg base (L2.CX P w) lev a fd ps (spF ct K n f) ∧ Binds K fd ps []
theorem env0_in {P : Program} {w : World} {K : PySem.W.Frag} {mg : Str → Option Value} {base : Heap} {A : Around} {outer : List Env} {s : Shared} {H : Hp} (e0 : Env0 P w K mg base A outer s H) : K.In s.heap := e0.mod.kin.keeps fun b o e => (e0.bs b o e).1
theorem Dfi.r {P : Program} {w : World} {K : PySem.W.Frag} [WC K] {mg : Str → Option Value} {base : Heap} {ct : Str → Option Addr} {a : Addr} {lev n : Nat} {f : FM} (d : Dfi P w K mg base ct a lev n f) : FnR P w K mg base (L2.CX P w) lev a (spF ct K n f) := by
  obtain ⟨fd, ps, F, b⟩ := d
  exact FnR.of_ok F b fun _ _ _ _ e0 => env0_in e0
/-! ### what a call gives -/
section
variable {ct : Str → Option Addr} {K : PySem.W.Frag} [WC K] {W : WX} {G H : Hp} {L M : List Addr} {T S : Sto} {σ : L2.St} {Q : VK} {xs : List V} {as : List Rv} {fm : FM}
def resOf (T : Sto) : FRes → Res Rv
  | .ok r S => .ok r T S
  | .exn z S => .exn z T S
  | .bad => .bad
theorem spF_of {n : Nat} (f : Fits K G H L M T S) (hr : RepRs K G L [] xs as) (hn : as.length = n) (h : Sat ct K W G H L M σ (RepR K) Q (resOf T (fm as S))) : spF ct K n fm xs H Q (WE W σ) := by
  refine ⟨by rw [hr.length]; exact hn, G, L, S, as, f.dropM, hr, ?_⟩
  cases e : fm as S with
  | ok r S' =>
    rw [e] at h
    intro G3 H3 L3 y x3 f3 r3
    obtain ⟨x4, f4⟩ := f.back x3 f3
    exact h G3 H3 L3 M y x4 f4 (r3.monoL (Same.refl _) (List.prefix_refl _) ⟨M, rfl⟩)
  | exn z S' =>
    rw [e] at h
    intro G3 H3 L3 c d x3 f3 r3
    obtain ⟨x4, f4⟩ := f.back x3 f3
    exact h G3 H3 L3 M c d x4 f4 r3
  | bad => rw [e] at h; exact (show False from h).elim
end
/-- C(e, ..) -/
def makeR (cls : Str) (fm : FM) (rs : List Rv) (T S : Sto) : Res Rv := match toAs rs T with
  | some (as, T') => (match fm (.loc S.length :: as) (S ++ [.ins cls []]) with
    | .ok (.v .none) S' => .ok (.loc S.length) T' S'
    | .ok _ _ => .bad
    | .exn z S' => .exn z T' S'
    | .bad => .bad)
  | none => .bad
/-- o.m(e, ..), o(e, ..): self first -/
def hasF (no : Option Str) (fs : List (Str × Rv)) : Bool := match no with
  | some m => (fs.lookup m).isSome
  | none => false
def argR (fm : FM) (r : Rv) (rs : List Rv) (T S : Sto) : Res Rv := match toAs rs T with
  | some (as, T') => resOf T' (fm (r :: as) S)
  | none => .bad
def insNo (cls : Str) (no : Option Str) (r : Rv) (S : Sto) : Bool := match insAt cls r S with
  | some (_, fs) => !hasF no fs
  | none => false
def selfM (cls : Str) (no : Option Str) (fm : FM) (mo : EM Rv) (ms : EM (List Rv)) : EM Rv := fun ρ T S => (mo ρ T S).bind fun r T S => if insNo cls no r S = true then (ms ρ T S).bind fun rs T S => if insNo cls none r S = true then argR fm r rs T S else .bad else .bad
section
variable {ct : Str → Option Addr} {X : Cx} [WC X.K] {W : WX} {pos apos p : Pos} {e o : Expr} {es : List Expr} {m mo : EM Rv} {ms : EM (List Rv)} {cls fl : Str} {k n : Nat} {f : Addr} {fm : FM}
theorem makeR_ok {G H : Hp} {L M : List Addr} {T S : Sto} {σ : L2.St} {Q : VK} {xs : List V} {rs : List Rv} (hn : rs.length + 1 = n) (ft : Fits X.K G H L M T S) (r : RepRs X.K G L M xs rs) (h : Sat ct X.K W G H L M σ (RepR X.K) Q (makeR cls fm rs T S)) :
    ∀ x dx, H x = none → H dx = none → dx ≠ x → spF ct X.K n fm (.ref x :: xs) (upd (upd H dx (.own x)) x (.ins (He.ga X.K cls) dx [])) (fun v H2 => v = .non ∧ Q (.ref x) H2) (WE W σ) := by
  intro x dx hx hd ne
  unfold makeR at h
  cases ea : toAs rs T with
  | none => rw [ea] at h; exact (show False from h).elim
  | some pr =>
    obtain ⟨as, T'⟩ := pr
    rw [ea] at h
    obtain ⟨G2, x2, f2, r2⟩ := toAs_ok ft r ea
    obtain ⟨x3, f3⟩ := f2.newI cls hx hd ne
    have hl : L[S.length]? = none := by rw [List.getElem?_eq_none]; rw [ft.lenL]; exact Nat.le_refl _
    have hself : (L ++ [x])[S.length]? = some x := by rw [← ft.lenL, List.getElem?_concat_length]
    have ra : RepRs X.K G2 (L ++ [x]) [] (.ref x :: xs) (.loc S.length :: as) := .cons ⟨x, hself, rfl⟩ (RepRs.mono (H := H) (H' := H) (M := []) (M' := []) ⟨Same.refl _, List.prefix_append L [x], List.prefix_refl _, fun _ _ z _ _ _ => z, fun a o z nt => ⟨o, z, nt⟩, fun _ _ z => .inl z, fun a z => (List.mem_append.mp z).elim .inl fun z => .inr (by rw [List.mem_singleton.mp z]; exact .inl hx), fun _ z => .inl z⟩ r2)
    have al : as.length + 1 = n := by rw [← r2.length, r.length]; exact hn
    have h : Sat ct X.K W G H L M σ (RepR X.K) Q (match fm (.loc S.length :: as) (S ++ [.ins cls []]) with | .ok (.v .none) S' => .ok (.loc S.length) T' S' | .ok _ _ => .bad | .exn z S' => .exn z T' S' | .bad => .bad) := h
    refine ⟨by rw [ra.length, List.length_cons]; exact al, G2, L ++ [x], S ++ [.ins cls []], .loc S.length :: as, f3.dropM, ra, ?_⟩
    cases ef : fm (.loc S.length :: as) (S ++ [.ins cls []]) with
    | bad => rw [ef] at h; exact (show False from h).elim
    | exn z S' =>
      rw [ef] at h
      intro G4 H4 L4 c d x4 f4 r4
      obtain ⟨x5, f5⟩ := f3.back x4 f4
      exact h G4 H4 L4 M c d (x2.trans (x3.trans x5)) f5 r4
    | ok r S' =>
      rw [ef] at h
      intro G4 H4 L4 y x4 f4 r4
      obtain ⟨x5, f5⟩ := f3.back x4 f4
      cases r with
      | v d =>
        cases d with
        | none =>
          cases (show Rep X.K G4 y .none from r4)
          exact ⟨rfl, h G4 H4 L4 M (.ref x) (x2.trans (x3.trans x5)) f5 ⟨x, pre_get x4.lp hself, rfl⟩⟩
        | _ => exact (show False from h).elim
      | _ => exact (show False from h).elim
theorem se_make (M : Mk X.K (He.ga X.K cls) f) (F : Dfi X.prog X.w X.K X.mg X.base ct f k (n + 1) fm) (hr : Room (k + 1) X.A) (tk : Takes X W) (hg : Gl X cls) (hm : X.mg cls = some (.ref (He.ga X.K cls))) (ha : SAn ct X W (e :: es) n ms) (hdb : (cls == ("__debug__" : Str)) = false)
    (he : starEach (e :: es) X.env = (false, eval e X.env) :: starEach es X.env) (hpl : (backTo pos (starEach es X.env)).any (·.1) = false) : SE ct X W (.Call (.Name cls p) (e :: es) [] pos) (callM (makeR cls fm) ms) := by
  obtain ⟨⟨t, pa, qa⟩, hn⟩ := ha
  refine ⟨fun σ H Q => t σ H fun vs H1 => ∀ x dx, H1 x = none → H1 dx = none → dx ≠ x → spF ct X.K (n + 1) fm (.ref x :: vs) (upd (upd H1 dx (.own x)) x (.ins (He.ga X.K cls) dx [])) (fun v H2 => v = .non ∧ Q (.ref x) H2) (WE W σ),
    ⟨fun pins s σ H Q I h => ?_⟩, fun ρ T S G H L M' σ Q hl ft sl h => ?_⟩
  · refine wpAny_Call_Name_kw (ld_glob I hg hm ?_ hdb)
    exact PySem.W.callWith_K (h₀ := X.base) I.ok.mod.kin M.kp (thn (pa.run pos pins s σ H _ I h) fun us s1 ⟨vs, H1, I1, r, q⟩ => ⟨I1.kIn, runMk M F.r hr (passAt tk σ) I1 r q⟩) he hpl
  · refine qa ρ T S G H L M' σ _ hl ft sl ?_
    unfold callM at h
    cases er : ms ρ T S with
    | bad => rw [er] at h; exact h
    | exn z T1 S1 => rw [er] at h; exact h
    | ok rs T1 S1 =>
      rw [er] at h
      intro G1 H1 L1 M1 xs e1 f1 r1
      exact makeR_ok (by rw [hn ρ T S rs T1 S1 er]) f1 r1 (Sat.pre e1 h)
theorem self_ok {G H : Hp} {L M : List Addr} {T S : Sto} {σ : L2.St} {Q : VK} {xs : List V} {rs : List Rv} {j : Nat} {a : Addr} (hn : rs.length + 1 = n) (ft : Fits X.K G H L M T S) (ha : L[j]? = some a) (r1 : RepRs X.K G L M xs rs) (h : Sat ct X.K W G H L M σ (RepR X.K) Q (argR fm (.loc j) rs T S)) :
    spF ct X.K n fm (.ref a :: xs) H Q (WE W σ) := by
  unfold argR at h
  cases ea : toAs rs T with
  | none => rw [ea] at h; exact (show False from h).elim
  | some pr =>
    obtain ⟨as, T'⟩ := pr
    rw [ea] at h
    obtain ⟨G2, x2, f2, r2⟩ := toAs_ok ft r1 ea
    have rq : RepR X.K G2 L [] (.ref a) (.loc j) := ⟨a, ha, rfl⟩
    exact spF_of f2 (.cons rq r2) (by rw [List.length_cons, ← r2.length, r1.length]; exact hn) (Sat.pre x2 h)
/-- where an instance stands -/
theorem ins_at {G H : Hp} {L M : List Addr} {T S : Sto} {x : V} {r : Rv} {no : Option Str} (ft : Fits X.K G H L M T S) (r0 : RepR X.K G L M x r) (ei : insNo cls no r S = true) : ∃ j a dx fs ws, r = .loc j ∧ L[j]? = some a ∧ x = .ref a ∧ H a = some (.ins (He.ga X.K cls) dx ws) ∧ FldOk X.K G L ws fs ∧ hasF no fs = false := by
  unfold insNo at ei
  cases e : insAt cls r S with
  | none => rw [e] at ei; cases ei
  | some pr =>
    obtain ⟨j, fs⟩ := pr
    rw [e] at ei
    have ei : (!hasF no fs) = true := ei
    obtain ⟨rfl, ej⟩ := insAt_ok e
    obtain ⟨a, ha, rfl⟩ := r0
    obtain ⟨dx, ws, h1, _, h3⟩ := ft.obL j a _ ha ej
    exact ⟨j, a, dx, fs, ws, rfl, ha, rfl, h1, h3, by cases q : hasF no fs with | false => rfl | true => rw [q] at ei; cases ei⟩
/-- o(e, ..), an instance is called -/
theorem se_callI {g : Addr} (c : StX.CallO X.K (He.ga X.K cls) g) (F : Dfi X.prog X.w X.K X.mg X.base ct g k (n + 1) fm) (hr : Room k X.A) (tk : Takes X W) (ho : SE ct X W o mo) (ha : SAn ct X W (e :: es) n ms)
    (ht : eval (.Call o (e :: es) [] pos) X.env = (eval o X.env >>= fun ov => callWith pos ov [] (backTo pos (starEach (e :: es) X.env)) (backToKw pos (keywordEach [] X.env))))
    (he : starEach (e :: es) X.env = (false, eval e X.env) :: starEach es X.env) (hpl : (backTo pos (starEach es X.env)).any (·.1) = false) : SE ct X W (.Call o (e :: es) [] pos) (selfM cls none fm mo ms) := by
  obtain ⟨t, p, q⟩ := ho
  obtain ⟨⟨ta, pa, qa⟩, hn⟩ := ha
  refine ⟨fun σ H Q => t σ H fun x H1 => ∃ a, x = .ref a ∧ ta σ H1 fun vs H2 => (∃ dx fs, H2 a = some (.ins (He.ga X.K cls) dx fs)) ∧ spF ct X.K (n + 1) fm (.ref a :: vs) H2 Q (WE W σ),
    ⟨fun pins s σ H Q I h => ?_⟩, fun ρ T S G H L M σ Q hl ft sl h => ?_⟩
  · refine Call_ (thn (p.run pins s σ H _ I h) fun u s1 ⟨x, H1, I1, rx, a, ex, q⟩ => ?_) ht
    subst ex
    obtain rfl : u = .ref a := rx
    refine StX.callO_with (thn (pa.run pos pins s1 σ H1 _ I1 q) fun us s2 ⟨vs, H2, I2, r, hi, q2⟩ => ?_) he hpl
    obtain ⟨ox, od, J, hd⟩ := StX.insC_at I2 (.inr hi)
    exact ⟨⟨_, ox, od, J, hd⟩, wpAny_call (PySem.W.kco_code I2.kIn J hd c.at_ c.fn c.fi (runAt (us := .ref a :: us) (vs := .ref a :: vs) F.r hr (passAt tk σ) I2 (.cons rfl r) q2))⟩
  · refine q ρ T S G H L M σ _ hl ft sl (Sat.bind h fun r T1 S1 G1 H1 L1 M1 x e1 f1 r1 h1 => ?_)
    split at h1
    · rename_i hs
      obtain ⟨j, a, dx, fs, ws, rfl, hj, rfl, hx, hf, hno⟩ := ins_at f1 r1 hs
      refine ⟨a, rfl, qa ρ T1 S1 G1 H1 L1 M1 σ _ hl f1 (sl.mono e1) ?_⟩
      cases er : ms ρ T1 S1 with
      | bad => rw [er] at h1; exact h1
      | exn z T2 S2 => rw [er] at h1; exact h1
      | ok rs T2 S2 =>
        rw [er] at h1
        intro G2 H2 L2 M2 xs e2 f2 r2
        have h2 : Sat ct X.K W G2 H2 L2 M2 σ (RepR X.K) Q (if insNo cls none (.loc j) S2 = true then argR fm (.loc j) rs T2 S2 else .bad) := Sat.pre e2 h1
        split at h2
        · rename_i hs2
          obtain ⟨j2, a2, dx2, fs2, ws2, e3, hj2, e4, hx2, _, _⟩ := ins_at f2 (show RepR X.K G2 L2 M2 (.ref a) (.loc j) from ⟨a, pre_get e2.lp hj, rfl⟩) hs2
          cases e4
          exact ⟨⟨dx2, ws2, hx2⟩, self_ok (by rw [hn ρ T1 S1 rs T2 S2 er]) f2 (pre_get e2.lp hj) r2 h2⟩
        · exact (show False from h2).elim
    · exact (show False from h1).elim
/-- what a getter raises goes nowhere -/
def noX {α : Type} : Res α → Res α
  | .exn _ _ _ => .bad
  | r => r
/-- o.f, a property -/
def propM (cls : Str) (fm : FM) (mo : EM Rv) : EM Rv := fun ρ T S => (mo ρ T S).bind fun r T S => if insNo cls none r S = true then noX (argR fm r [] T S) else .bad
theorem se_prop {pp g : Addr} (c : Cls X.K (He.ga X.K cls)) (hp : PropOf X.K (He.ga X.K cls) fl pp g) (F : Dfi X.prog X.w X.K X.mg X.base ct g k 1 fm) (hr : Room (k + 1) X.A) (ho : SE ct X W o mo) (hb : attributeBase o fl X.env (eval o X.env) = eval o X.env) : SE ct X W (.Attribute o fl pos) (propM cls fm mo) := by
  obtain ⟨t, p, q⟩ := ho
  obtain ⟨fd, ps, F, b⟩ := F
  refine ⟨_, pe_prop (E := fun _ _ _ => False) p c hp F hr b .nil (fun pins σ H s e s' I hc => ?_) hb, fun ρ T S G H L M σ Q hl ft sl h => ?_⟩
  · obtain ⟨_, _, _, _, _, _, _, _, h⟩ := hc
    simp at h
  · refine q ρ T S G H L M σ _ hl ft sl (Sat.bind h fun r T1 S1 G1 H1 L1 M1 x e1 f1 r1 h1 => ?_)
    split at h1
    · rename_i hs
      obtain ⟨j, a, dx, fs, ws, rfl, hj, rfl, hx, hf, hno⟩ := ins_at f1 r1 hs
      refine ⟨a, dx, ws, rfl, hx, ?_⟩
      have h2 : Sat ct X.K (fun _ _ _ _ => False) G1 H1 L1 M1 σ (RepR X.K) Q (argR fm (.loc j) [] T1 S1) := by
        cases e : argR fm (.loc j) [] T1 S1 with
        | ok r T2 S2 => rw [e] at h1; exact h1
        | exn z T2 S2 => rw [e] at h1; exact (show False from h1).elim
        | bad => rw [e] at h1; exact (show False from h1).elim
      exact self_ok (W := fun _ _ _ _ => False) (rs := []) rfl f1 hj .nil h2
    · exact (show False from h1).elim
end
end RB
end
/-! text RIns3 -/
section
set_option Elab.async false
set_option linter.all false
set_option maxRecDepth 100000
set_option maxHeartbeats 4000000
/-! RIns3: isinstance of an own class; != of two instances with an own ==. -/
namespace RB
open PySem PySem.Spec PyProof.Rows L2
/-- isinstance(x, C) -/
def isiR (cls : Str) (r : Rv) (T S : Sto) : Res Rv := if insNo cls none r S = true then .ok (.v (.bool true)) T S else match r with
  | .v _ => .ok (.v (.bool false)) T S
  | _ => .bad
def isiC (cls : Str) (m : EM Rv) : EM Rv := fun ρ T S => (m ρ T S).bind (isiR cls)
section
variable {ct : Str → Option Addr} {X : Cx} [WC X.K] {W : WX} {p pos pc : Pos} {a : Expr} {m : EM Rv} {cls : Str}
theorem isIB_ok {K : PySem.W.Frag} (h : isIB K cls = true) : (PySem.W.findIn K (.ref (He.ga K cls)) "__class__" = some (some (.builtin "object.__class__")) ∧ PySem.W.specialIn K (.builtin "object.__class__") "__get__" = some (some (.builtin "getset_descriptor.__get__")) ∧
    PySem.W.takesIn K (.builtin "object.__class__") = some true ∧ PySem.W.mroIn K (He.ga K cls) (.type "object") = some true) ∧ ∀ t ∈ ["NoneType", "bool", "int", "str", "list", "tuple"], PySem.W.kitOne K (.type t) (.ref (He.ga K cls)) = some false := by
  unfold isIB at h
  rw [Bool.and_eq_true, Bool.and_eq_true, Bool.and_eq_true, Bool.and_eq_true, decide_eq_true_eq, decide_eq_true_eq, List.all_eq_true] at h
  exact ⟨⟨He.eqO_ok h.1, He.eqO_ok h.2.1, h.2.2.1, h.2.2.2.1⟩, fun t ht => of_decide_eq_true (h.2.2.2.2 t ht)⟩
theorem ty_data {G H : Hp} {L M : List Addr} {T S : Sto} (f : Fits X.K G H L M T S) {x : V} {d : D} (h : Rep X.K G x d) : ∃ t ∈ ["NoneType", "bool", "int", "str", "list", "tuple"], TyX X.K H x (.type t) := by
  cases h with
  | non => exact ⟨_, by simp, .base .non⟩
  | bl b => exact ⟨_, by simp, .base (.bl b)⟩
  | int i => exact ⟨_, by simp, .base (.int i)⟩
  | str z => exact ⟨_, by simp, .base (.str z)⟩
  | tup hs _ => exact ⟨"tuple", by simp, tyX_tup (sqT_mono f.sub hs)⟩
  | lst hg _ => exact ⟨"list", by simp, .base (.lst (f.sub _ _ hg))⟩
theorem se_isiC (hi : isIB X.K cls = true) (cl : Cls X.K (He.ga X.K cls)) (hg : Gl X "isinstance") (hm : X.mg "isinstance" = none) (hgc : Gl X cls) (hmc : X.mg cls = some (.ref (He.ga X.K cls))) (hd : (cls == ("__debug__" : Str)) = false) (ha : SE ct X W a m)
    (h1 : starEach [a, .Name cls pc] X.env = (false, eval a X.env) :: starEach [.Name cls pc] X.env) (h2 : starEach [.Name cls pc] X.env = (false, eval (.Name cls pc) X.env) :: starEach [] X.env) (hpl : (backTo pos (starEach [.Name cls pc] X.env)).any (·.1) = false) :
    SE ct X W (.Call (.Name "isinstance" p) [a, .Name cls pc] [] pos) (isiC cls m) := by
  obtain ⟨t, pa, qa⟩ := ha
  obtain ⟨⟨i1, i2, i3, i4⟩, i5⟩ := isIB_ok hi
  refine ⟨_, pe_callB call_isi hg hm (by decide +kernel) (pa_cons pa (pa_cons (pe_glob (v := .ref (He.ga X.K cls)) hgc hmc rfl hd) pa_nil h2) h1) (by decide) (by decide) h1 hpl, fun ρ T S G H L M σ Q hl f sl h => ?_⟩
  refine qa ρ T S G H L M σ _ hl f sl (Sat.bind h fun r T1 S1 G1 H1 L1 M1 v e1 f1 r1 h1 => ?_)
  unfold isiR at h1
  split at h1
  · rename_i hs
    obtain ⟨j, b, dx, fs, ws, rfl, hj, rfl, hx, hf, hno⟩ := ins_at f1 r1 hs
    exact ⟨.ref b, .ref (He.ga X.K cls), .ref (He.ga X.K cls), .ref (He.ga X.K cls), true, rfl, .own _, .base (.ins hx cl i1 i2 i3 i4), by unfold PySem.W.kitOne; rw [if_pos (by simp)], h1 _ _ _ _ _ (Ext.refl _ _ _ _) f1 (show Rep X.K _ _ _ from .bl true)⟩
  · cases r with
    | v d =>
      obtain ⟨t, ht, ty⟩ := ty_data f1 (show Rep X.K G1 v d from r1)
      exact ⟨v, .ref (He.ga X.K cls), .type t, .ref (He.ga X.K cls), false, rfl, .own _, ty, i5 t ht, h1 _ _ _ _ _ (Ext.refl _ _ _ _) f1 (show Rep X.K _ _ _ from .bl false)⟩
    | _ => exact (show False from h1).elim
end
/-! ### != -/
theorem oeB_ok {K : PySem.W.Frag} {h : Heap} {C f x : Addr} {o : Obj} (X : K.In h) (c : oeB K C f = true) (hx : h.get? x = some o) (hc : o.cls = .ref C) : h.OwnEqNoNe x C f "object" [.type "object"] := by
  unfold oeB at c
  split at c
  · rename_i t dd cd sl u od dt osl lC lf
    split at c
    · rename_i C' ob k0 k1 k2 k3 nid k5 c0 d0 es ep sl0 hm hs hns
      simp only [Bool.and_eq_true, beq_iff_eq, Bool.not_eq_true'] at c
      obtain ⟨rfl, rfl, rfl, rfl, hdel, hk, he, hn⟩ := c
      obtain ⟨nm, bs, mro, ns, qn, hdct, sn, sub, ab, col, del⟩ := cd
      dsimp only at hm hdel hns
      subst hm; subst hdel
      have hsl : sl = #[k0, k1, k2, k3, some (.builtin nid), k5] := by
        obtain ⟨l⟩ := sl
        simp only at hs
        rw [hs]
      subst hsl
      have e1 : nsFind es "__eq__" = some (.ref f) := by
        unfold refAB at he
        split at he
        · rename_i a q; rw [q, eq_of_beq he]
        · cases he
      have e2 : nsFind es "__ne__" = none := by
        unfold noneOB at hn
        split at hn
        · rename_i q; exact q
        · cases hn
      have hsk : StrKeys es := fun e hh => by
        have := Array.all_eq_true'.mp hk e hh
        unfold strKB at this
        split at this
        · rename_i n t q; exact ⟨n, t, q⟩
        · cases this
      exact ⟨o, _, nm, qn, ns, bs, hdct, sn, sub, ab, col, dd, k0, k1, k2, k3, k5, nid, fun x => nsFind es x, _, hx, hc, X _ _ lC, ⟨_, es, ep, X _ _ hns, rfl, hsk, fun _ => rfl⟩, e1, X _ _ lf, rfl, PySem.F.cmp_object.mro, PySem.F.cmp_object.eq.lookup, e2⟩
    · cases c
  · cases c
end RB
end
/-! text RHead5 -/
section
set_option Elab.async false
set_option linter.all false
set_option maxRecDepth 100000
set_option maxHeartbeats 4000000
/-! RHead5: the head, with classes of the text. -/
namespace RB
open PySem PySem.Spec PyProof.Rows L2
structure SaysM (fa : List He.Fa) (fn : List He.DefD) (xs : List ExD) (em : List (Str × Str)) (gs : List GetD) (co : List Fc) (file : Str) (h : Heap) (K : PySem.W.Frag) : Prop where
  e : SaysE fa fn xs em file h K
  gv : gs.map (fun d => fnA K (d.ad K)) = gs.map GetD.val
  gb : ∀ d ∈ gs, getIB K d = true
  co : ∀ c ∈ co, c.ok K = true
def hookM (as : List Addr) (fa : List He.Fa) (fn : List He.DefD) (xs : List ExD) (em : List (Str × Str)) (gs : List GetD) (co : List Fc) (file : Str) : PySem.W.Hook where
  α := AlM
  obs := fun s => obsM as fa fn xs em gs co file s.heap.get?
  val := fun _ => valM fn xs gs
  says := fun _ h => ∃ K : PySem.W.Frag, K.In h ∧ SaysM fa fn xs em gs co file h K
  of := fun _ _ e => by
    obtain ⟨e1, e2⟩ := Prod.mk.inj e
    obtain ⟨e2, e3⟩ := Prod.mk.inj e2
    rw [Bool.and_eq_true] at e3
    exact ⟨_, He.frT_in, saysL_of e1, e2, List.all_eq_true.mp e3.1, List.all_eq_true.mp e3.2⟩
  keeps := fun _ _ _ ⟨K, hK, c⟩ k => ⟨K, PySem.W.Frag.In.keeps hK k, ⟨⟨⟨c.e.r.t, c.e.r.ini, c.e.r.ex, c.e.r.tt, c.e.r.hd, c.e.r.out, fun p hp => k _ _ (c.e.r.empty p hp)⟩, c.e.em⟩, c.gv, c.gb, c.co⟩⟩
theorem obsM_eq {as : List Addr} {fa : List He.Fa} {fn : List He.DefD} {xs : List ExD} {em : List (Str × Str)} {gs : List GetD} {co : List Fc} {file : Str} {g : Addr → Option Obj} {s : Shared} (h : ∀ a, g a = s.heap.get? a) : obsM as fa fn xs em gs co file g = (hookM as fa fn xs em gs co file).obs s := by
  have e : g = s.heap.get? := funext h
  rw [e] <;> rfl
theorem get_ok {K : PySem.W.Frag} {d : GetD} (e : fnA K (d.ad K) = d.val) (c : getIB K d = true) : (∃ fd, Fun K d.fld d.qual d.st (d.ad K) fd) ∧ (if d.kd = "property" then prIB K d else clIB K d) = true := by
  unfold getIB at c
  rw [Bool.and_eq_true, Bool.and_eq_true] at c
  obtain ⟨kp, c2, c3⟩ := c
  refine ⟨?_, c3⟩
  unfold cdIB at c2
  unfold fnA at e
  cases q : K.lookup (d.ad K) with
  | none => rw [q] at c2; cases c2
  | some o =>
    obtain ⟨oc, od, dt, osl⟩ := o
    rw [q] at c2 e
    cases dt with
    | func z =>
      obtain ⟨n1, n2, n3, n4, n5, n6, n7, n8, n9, n10, n11, n12, n13, n14, n15⟩ := z
      have e2 : (some (n1, n2, n3, n4, n5, n6, n7, n15) : He.FnW) = some (d.fld, d.qual, defArgs d.st, .stmts (defBody d.st), defScope d.st, mainGlobals, [], builtinsNs) := e
      simp only [Option.some.injEq, Prod.mk.injEq] at e2
      obtain ⟨h1, h2, h3, h4, h5, h6, h7, h8⟩ := e2
      subst h1 h2 h3 h4 h5 h6 h7 h8
      have c3 : (PySem.W.codeIn K n13 d.qual && noneVB n8) = true := c2
      rw [Bool.and_eq_true] at c3
      obtain ⟨k1, k2⟩ := c3
      cases n8 with
      | none => exact ⟨_, ⟨⟨oc, od, n9, n10, n11, n12, n13, n14, osl, rfl, q, k1⟩, kp⟩⟩
      | _ => cases k2
    | _ => cases c2
theorem pr_ok {K : PySem.W.Frag} {d : GetD} (c : prIB K d = true) : PropOf K (He.ga K d.cls) d.fld (He.ma K (He.ga K d.cls) d.fld) (prA K d.cls d.fld) := by
  unfold prIB at c
  rw [Bool.and_eq_true, Bool.and_eq_true, Bool.and_eq_true, decide_eq_true_eq] at c
  obtain ⟨c3, c4, c5, c6⟩ := c
  refine ⟨He.eqO_ok c3, He.eqO_ok c4, c5, ?_⟩
  unfold rcIB at c6
  unfold prA He5.wf
  split at c6
  · rename_i a rest q
    rw [q]
    exact ⟨rest, rfl⟩
  · cases c6
theorem SaysM.getF {fa : List He.Fa} {fn : List He.DefD} {xs : List ExD} {em : List (Str × Str)} {gs : List GetD} {co : List Fc} {file : Str} {h : Heap} {K : PySem.W.Frag} (c : SaysM fa fn xs em gs co file h K) (i : Nat) {d : GetD} (hi : gs[i]? = some d) :
    (∃ fd, Fun K d.fld d.qual d.st (d.ad K) fd) ∧ (if d.kd = "property" then prIB K d else clIB K d) = true := by
  refine get_ok ?_ (c.gb d (List.mem_of_getElem? hi))
  have e2 : (gs.map fun d => fnA K (d.ad K))[i]? = (gs.map GetD.val)[i]? := by rw [c.gv]
  rw [List.getElem?_map, List.getElem?_map, hi] at e2
  exact Option.some.inj e2
theorem SaysM.get {fa : List He.Fa} {fn : List He.DefD} {xs : List ExD} {em : List (Str × Str)} {gs : List GetD} {co : List Fc} {file : Str} {h : Heap} {K : PySem.W.Frag} (c : SaysM fa fn xs em gs co file h K) (i : Nat) {d : GetD} (hi : gs[i]? = some d) (hk : d.kd = "property") :
    ∃ fd, Fun K d.fld d.qual d.st (prA K d.cls d.fld) fd ∧ PropOf K (He.ga K d.cls) d.fld (He.ma K (He.ga K d.cls) d.fld) (prA K d.cls d.fld) := by
  obtain ⟨⟨fd, F⟩, h2⟩ := c.getF i hi
  rw [if_pos hk] at h2
  have e : d.ad K = prA K d.cls d.fld := by unfold GetD.ad prA; rw [hk]
  rw [e] at F
  exact ⟨fd, F, pr_ok h2⟩
theorem SaysM.getC {fa : List He.Fa} {fn : List He.DefD} {xs : List ExD} {em : List (Str × Str)} {gs : List GetD} {co : List Fc} {file : Str} {h : Heap} {K : PySem.W.Frag} (c : SaysM fa fn xs em gs co file h K) (i : Nat) {d : GetD} (hi : gs[i]? = some d) (hk : ¬ d.kd = "property") :
    ∃ fd, Fun K d.fld d.qual d.st (d.ad K) fd ∧ clIB K d = true := by
  obtain ⟨⟨fd, F⟩, h2⟩ := c.getF i hi
  rw [if_neg hk] at h2
  exact ⟨fd, F, h2⟩
theorem SaysM.fc {fa : List He.Fa} {fn : List He.DefD} {xs : List ExD} {em : List (Str × Str)} {gs : List GetD} {co : List Fc} {file : Str} {h : Heap} {K : PySem.W.Frag} (c : SaysM fa fn xs em gs co file h K) (i : Nat) {x : Fc} (hx : co[i]? = some x) : x.ok K = true := c.co x (List.mem_of_getElem? hx)
theorem cal_ok {K : PySem.W.Frag} {x : Str} (c : (Fc.cal x).ok K = true) (m : Meth K (He.ga K x) "__call__" (He.ma K (He.ga K x) "__call__")) : StX.CallO K (He.ga K x) (He.ma K (He.ga K x) "__call__") := ⟨m.at_, m.fn, c⟩
/-- a method, as the head tells it -/
theorem fun_ofM {K : PySem.W.Frag} {x q : Str} {st : Stmt} {kws : List (Str × V)} {f : Addr} {fd : FuncData} (F : FunD K x q (defArgs st) (defBody st) (defScope st) [] kws f fd) : Fun K x q st f fd := by
  obtain ⟨oc, od, dV, kV, doc, pm, an, cdv, ct, osl, e, lk, hcd, hD, hK⟩ := F.ex
  rcases hD with ⟨_, rfl⟩ | ⟨e, _⟩
  · exact ⟨⟨oc, od, kV, doc, pm, an, cdv, ct, osl, e, lk, hcd⟩, F.kp⟩
  · exact absurd rfl e
end RB
end
/-! text K35top -/
section
set_option Elab.async false
set_option linter.all false
set_option maxRecDepth 100000
set_option maxHeartbeats 0
namespace RB.Law
open PySem PySem.Spec PyProof.Rows L2 RB
def qx_InvalidPaper (i : _root_.Fin 15) : Pos := ([⟨15, 8, 15, 13⟩, ⟨15, 8, 15, 15⟩, ⟨15, 8, 15, 24⟩, ⟨15, 25, 15, 29⟩, ⟨15, 31, 15, 33⟩, ⟨15, 8, 15, 34⟩, ⟨15, 8, 15, 34⟩, ⟨16, 8, 16, 12⟩, ⟨16, 8, 16, 17⟩, ⟨16, 20, 16, 24⟩, ⟨16, 8, 16, 24⟩, ⟨17, 8, 17, 12⟩, ⟨17, 8, 17, 15⟩, ⟨17, 18, 17, 20⟩, ⟨17, 8, 17, 20⟩] : List Pos).getD i.val ⟨0, 0, 0, 0⟩
theorem xp_InvalidPaper : ExP PP xd_InvalidPaper where
  body := ⟨qx_InvalidPaper, by kernel_rfl, fun L fI cda cc => ⟨⟨_, rfl⟩, rfl, rfl, rfl, rfl⟩⟩
  ar := ⟨_, rfl, rfl⟩
  kind := rfl
  co := rfl
  gen := rfl
  nc := by decide +kernel
  su := rfl
  cl := rfl
  se := rfl
  l1 := rfl
  l2 := rfl
  top := by decide +kernel
  d12 := by decide
  ds1 := by decide
  ds2 := by decide
  b1 := by decide
  b2 := by decide
  bind := fun _ _ _ _ _ _ _ us hl => match us, hl with | [_, _, _], _ => (by kernel_rfl)
def qx_NotUsable (i : _root_.Fin 15) : Pos := ([⟨21, 8, 21, 13⟩, ⟨21, 8, 21, 15⟩, ⟨21, 8, 21, 24⟩, ⟨21, 25, 21, 29⟩, ⟨21, 31, 21, 33⟩, ⟨21, 8, 21, 34⟩, ⟨21, 8, 21, 34⟩, ⟨22, 8, 22, 12⟩, ⟨22, 8, 22, 17⟩, ⟨22, 20, 22, 24⟩, ⟨22, 8, 22, 24⟩, ⟨23, 8, 23, 12⟩, ⟨23, 8, 23, 15⟩, ⟨23, 18, 23, 20⟩, ⟨23, 8, 23, 20⟩] : List Pos).getD i.val ⟨0, 0, 0, 0⟩
theorem xp_NotUsable : ExP PP xd_NotUsable where
  body := ⟨qx_NotUsable, by kernel_rfl, fun L fI cda cc => ⟨⟨_, rfl⟩, rfl, rfl, rfl, rfl⟩⟩
  ar := ⟨_, rfl, rfl⟩
  kind := rfl
  co := rfl
  gen := rfl
  nc := by decide +kernel
  su := rfl
  cl := rfl
  se := rfl
  l1 := rfl
  l2 := rfl
  top := by decide +kernel
  d12 := by decide
  ds1 := by decide
  ds2 := by decide
  b1 := by decide
  b2 := by decide
  bind := fun _ _ _ _ _ _ _ us hl => match us, hl with | [_, _, _], _ => (by kernel_rfl)
abbrev hk : PySem.W.Hook := hookM asL faL fnL xsL emL gsL coL PP.main.file
theorem ob_eq (s : PySem.W.SharedT) : ob s = hk.obs s.abs := obsM_eq (HandSHeadRun.getT_eq s)
theorem run (w : World) : HandSHeadRun.RunEq R (PySem.W.view R.prog [29]) hk ob 6000 loose w := run0 w
end RB.Law
end
/-! text RMore11 -/
section
set_option Elab.async false
set_option linter.all false
set_option maxRecDepth 100000
set_option maxHeartbeats 4000000
/-! RMore11: a, b, .. = a list. -/
namespace RB
open PySem PySem.Spec PyProof.Rows L2
end RB
end
/-! text RSetC -/
section
set_option Elab.async false
set_option linter.all false
set_option maxRecDepth 100000
set_option maxHeartbeats 4000000
/-! RSetC: sorted({x for ..}), x a text (the walk follows the kit's comprehension of truth values, turned to texts). -/
namespace RB
open PySem PySem.Spec PyProof.Rows L2 PpSet
end RB
end
/-! text RSetC2 -/
section
set_option Elab.async false
set_option linter.all false
set_option maxRecDepth 100000
set_option maxHeartbeats 4000000
/-! RSetC2: sorted({x for ..}) as a mirror. -/
namespace RB
open PySem PySem.Spec PyProof.Rows L2
end RB
end
/-! text RMore12 -/
section
set_option Elab.async false
set_option linter.all false
set_option maxRecDepth 100000
set_option maxHeartbeats 4000000
/-! RMore12: a name is given a comprehension with two fors. -/
namespace RB
open PySem PySem.Spec PyProof.Rows L2
end RB
end
/-! text RSortX -/
section
set_option Elab.async false
set_option linter.all false
set_option maxRecDepth 100000
set_option maxHeartbeats 4000000
/-! RSortX: sorted(xs), xs tuples that are alike up to the place where they part (the walk follows the kit's, for alike data). -/
namespace RB
open PySem PySem.Spec PySem.W PySem.Calls PySem.SeqAt PyProof.Rows
end RB
namespace RB
open PySem PySem.Spec PyProof.Rows L2
end RB
end
/-! text RWp -/
section
set_option Elab.async false
set_option linter.all false
set_option maxRecDepth 100000
set_option maxHeartbeats 4000000
/-! RWp: what mirrors answer, by conditions behind them. -/
namespace RB
open PySem PySem.Spec PyProof.Rows L2
def fnRun (o : Out) : FRes := match o with
  | .ret r T S' => retR r T S'
  | .next _ _ S' => .ok (.v .none) S'
  | .exn x _ _ S' => .exn x S'
  | _ => .bad
end RB
namespace RB.W0
open PySem PySem.Spec PyProof.Rows L2 RB
/-! ### statements -/
/-! ### expressions -/
/-! ### defs -/
/-! ### comprehensions -/
end RB.W0
namespace RB
open PySem PySem.Spec PyProof.Rows L2
/-! ### statements -/
variable (ρ : Vn) (T S : Sto) (N : Vn → Sto → Sto → Prop) (R : Rv → Sto → Sto → Prop)
/-! ### expressions -/
/-! ### defs -/
theorem fnM_eq (n : Nat) (m : SM) (rs : List Rv) (S : Sto) : fnM n m rs S = fnRun (m (rs.map some ++ List.replicate (n - rs.length) none) [] S) := rfl
/-! ### comprehensions -/
end RB
end
/-! text RWp2 -/
section
set_option Elab.async false
set_option linter.all false
set_option maxRecDepth 100000
set_option maxHeartbeats 4000000
/-! RWp2: operations at plain values. -/
namespace RB
open PySem PySem.Spec PyProof.Rows L2
variable (T S : Sto)
theorem ob_l (xs : List D) : obList (some (.lst xs)) = some xs := rfl
theorem ob_f (xs : List D) : obList (some (.frz xs)) = some xs := rfl
/-! ### ints -/
theorem o_add_int (i j : Int) : o_add (.v (.int i)) (.v (.int j)) T S = .ok (.v (.int (i + j))) T S := rfl
theorem o_sub_int (i j : Int) : o_sub (.v (.int i)) (.v (.int j)) T S = .ok (.v (.int (i - j))) T S := rfl
theorem o_mul_int (i j : Int) (h : i.natAbs.log2 + j.natAbs.log2 < 1000000) : o_mul (.v (.int i)) (.v (.int j)) T S = .ok (.v (.int (i * j))) T S := by
  show (if cMul i j = true then _ else _) = _
  rw [if_pos (decide_eq_true h)]
theorem log2_small {i : Int} (h : i.natAbs < 2 ^ 400) : i.natAbs.log2 < 400 := by
  by_cases h0 : i.natAbs = 0
  · rw [h0]; decide
  · exact (Nat.log2_lt h0).mpr h
theorem o_mul_small (i j : Int) (h : i.natAbs < 2 ^ 400) (h2 : j.natAbs < 2 ^ 400) : o_mul (.v (.int i)) (.v (.int j)) T S = .ok (.v (.int (i * j))) T S := by
  have := log2_small h
  have := log2_small h2
  exact o_mul_int T S i j (by omega)
theorem o_div_int (i j : Int) (h : 0 < j ∧ j < 1073741824) : o_div (.v (.int i)) (.v (.int j)) T S = .ok (.v (.int (i / j))) T S := by
  show (if cDiv i j = true then _ else _) = _
  rw [if_pos (decide_eq_true h)]
theorem o_mod_int (i j : Int) (h : 0 < j) : o_mod (.v (.int i)) (.v (.int j)) T S = .ok (.v (.int (i % j))) T S := by
  show (if cMod i j = true then _ else _) = _
  rw [if_pos (decide_eq_true h)]
theorem o_pow_int (i j : Int) (h : 0 ≤ j ∧ j ≤ 1000000 ∧ i.natAbs < 2 ^ 64) : o_pow (.v (.int i)) (.v (.int j)) T S = .ok (.v (.int (i ^ j.toNat))) T S := by
  show (if cPow i j = true then _ else _) = _
  rw [if_pos (decide_eq_true h)]
theorem ordC_int (i j : Int) : ordC (.int i) (.int j) = true := by simp [ordC, PySem.W.alike, isNone, deep, PyData.depth]
theorem ordC_str (x y : Str) : ordC (.str x) (.str y) = true := by simp [ordC, PySem.W.alike, isNone, deep, PyData.depth]
theorem o_lt_int (i j : Int) : o_lt (.v (.int i)) (.v (.int j)) T S = .ok (.v (.bool (decide (i < j)))) T S := by simp [o_cmp, look, ordC_int, PySem.W.dataLt_int]
theorem o_gt_int (i j : Int) : o_gt (.v (.int i)) (.v (.int j)) T S = .ok (.v (.bool (decide (j < i)))) T S := by simp [o_cmp, look, ordC_int, PySem.W.dataLt_int]
theorem o_le_int (i j : Int) : o_le (.v (.int i)) (.v (.int j)) T S = .ok (.v (.bool (decide (i ≤ j)))) T S := by
  simp [o_cmp, look, ordC_int, PySem.W.dataLt_int]
  by_cases h : i ≤ j <;> simp [h] <;> omega
theorem o_ge_int (i j : Int) : o_ge (.v (.int i)) (.v (.int j)) T S = .ok (.v (.bool (decide (j ≤ i)))) T S := by
  simp [o_cmp, look, ordC_int, PySem.W.dataLt_int]
  by_cases h : j ≤ i <;> simp [h] <;> omega
theorem deep0 (d e : D) (h : d.depth ≤ 64 ∨ e.depth ≤ 64) : deep d e = true := by
  unfold deep
  exact decide_eq_true (by omega)
theorem depth_nilL : (PyData.list []).depth = 1 := by simp [PyData.depth, PyData.depthAll]
theorem depth_nilT : (PyData.tuple []).depth = 1 := by simp [PyData.depth, PyData.depthAll]
theorem eqvAll_nil (xs : List D) : PyData.eqvAll xs [] = xs.isEmpty := by cases xs <;> simp [PyData.eqvAll]
def ltS (x y : Str) : Bool := decide (x.cps.toList < y.cps.toList)
theorem o_lt_str (x y : Str) : o_lt (.v (.str x)) (.v (.str y)) T S = .ok (.v (.bool (ltS x y))) T S := by simp [o_cmp, look, ordC_str, PySem.W.dataLt_str, ltS]
theorem o_ge_str (x y : Str) : o_ge (.v (.str x)) (.v (.str y)) T S = .ok (.v (.bool (!ltS x y))) T S := by simp [o_cmp, look, ordC_str, PySem.W.dataLt_str, ltS]
/-! ### items -/
theorem atI_nat {α : Type} (xs : List α) (k : Nat) : atI xs (k : Int) = xs[k]? := by
  unfold atI ixN
  rw [if_pos (by omega)]
  by_cases h : k < xs.length
  · rw [if_pos (by omega)]
    simp
  · rw [if_neg (by omega), List.getElem?_eq_none (by omega)]
    rfl
theorem atI_0 {α : Type} (xs : List α) : atI xs 0 = xs[0]? := atI_nat xs 0
theorem atI_1 {α : Type} (xs : List α) : atI xs 1 = xs[1]? := atI_nat xs 1
theorem atI_2 {α : Type} (xs : List α) : atI xs 2 = xs[2]? := atI_nat xs 2
theorem atI_3 {α : Type} (xs : List α) : atI xs 3 = xs[3]? := atI_nat xs 3
theorem atI_4 {α : Type} (xs : List α) : atI xs 4 = xs[4]? := atI_nat xs 4
theorem atI_lt {α : Type} (xs : List α) {i : Int} (h0 : 0 ≤ i) (h1 : i < xs.length) : ∃ x, atI xs i = some x ∧ x ∈ xs := by
  obtain ⟨k, rfl⟩ := Int.eq_ofNat_of_zero_le h0
  have hk : k < xs.length := by omega
  rw [atI_nat]
  exact ⟨xs[k], List.getElem?_eq_getElem hk, List.getElem_mem hk⟩
/-! ### len, all, in, zip, slices -/
/-! ### two kinds of comprehension -/
end RB
namespace RB
open PySem PySem.Spec PyProof.Rows L2
/-! ### one statement at a time -/
end RB
end
/-! text RLiveX -/
section
set_option Elab.async false
set_option linter.all false
set_option maxRecDepth 100000
set_option maxHeartbeats 4000000
/-! RLiveX: enumerate(x) for x a list (looked at at every turn) or a tuple. -/
namespace RB
open PySem PySem.Spec PyProof.Rows L2
def lvX (rs : List Rv) (T S : Sto) : Res NX := match rs with
  | [.v (.tuple xs)] => .ok ⟨liveN enumW (.v (.list xs)), xs.length⟩ T S
  | [r] => (match lstOf r T S with
    | some xs => .ok ⟨liveN enumW r, xs.length⟩ T S
    | none => .bad)
  | _ => .bad
def liveX (ms : EM (List Rv)) : EM NX := fun ρ T S => (ms ρ T S).bind lvX
/-! ### x for x in y, y a list (looked at at every turn) or a tuple -/
def kLvX (r : Rv) (T S : Sto) : Res NX := match r with
  | .v (.tuple xs) => .ok ⟨liveN seqW (.v (.list xs)), xs.length⟩ T S
  | r => (match lstOf r T S with
    | some xs => .ok ⟨liveN seqW r, xs.length⟩ T S
    | none => .bad)
def liveXM (m : EM Rv) : EM NX := fun ρ T S => (m ρ T S).bind kLvX
end RB
end
/-! text REv -/
section
set_option Elab.async false
set_option linter.all false
set_option maxRecDepth 100000
set_option maxHeartbeats 4000000
/-! REv: mirrors are run by rewriting: what a piece answers, as an equation. -/
namespace RB
open PySem PySem.Spec PyProof.Rows L2
section
variable {α β : Type} (ρ : Vn) (T S : Sto) (c : Prop) [Decidable c]
theorem bind_ite (a b : Res α) (k : α → Sto → Sto → Res β) : (if c then a else b).bind k = if c then a.bind k else b.bind k := by split <;> rfl
theorem out_ok (a : α) (k : α → Sto → Sto → Out) : (Res.ok a T S).out ρ k = k a T S := rfl
theorem out_exn (x : Exn) (k : α → Sto → Sto → Out) : (Res.exn x T S : Res α).out ρ k = .exn x ρ T S := rfl
theorem out_ite (a b : Res α) (k : α → Sto → Sto → Out) : (if c then a else b).out ρ k = if c then a.out ρ k else b.out ρ k := by split <;> rfl
theorem thn_next (u : SM) : (Out.next ρ T S).thn u = u ρ T S := rfl
theorem thn_ret (r : Rv) (u : SM) : (Out.ret r T S).thn u = .ret r T S := rfl
theorem thn_exn (x : Exn) (u : SM) : (Out.exn x ρ T S).thn u = .exn x ρ T S := rfl
theorem thn_brk (u : SM) : (Out.brk ρ T S).thn u = .brk ρ T S := rfl
theorem thn_cnt (u : SM) : (Out.cnt ρ T S).thn u = .cnt ρ T S := rfl
theorem thn_ite (a b : Out) (u : SM) : (if c then a else b).thn u = if c then a.thn u else b.thn u := by split <;> rfl
theorem run_ret (r : Rv) : fnRun (.ret r T S) = retR r T S := rfl
theorem run_next : fnRun (.next ρ T S) = .ok (.v .none) S := rfl
theorem run_exn (x : Exn) : fnRun (.exn x ρ T S) = .exn x S := rfl
theorem run_ite (a b : Out) : fnRun (if c then a else b) = if c then fnRun a else fnRun b := by split <;> rfl
theorem retR_v (d : D) : retR (.v d) T S = .ok (.v d) S := rfl
theorem retR_loc (n : Nat) : retR (.loc n) T S = .ok (.loc n) S := rfl
def retL (o : Option (List D)) (S : Sto) : FRes := match o with
  | some xs => .ok (.v (.list xs)) S
  | none => .bad
theorem retR_own (k : Nat) : retR (.own k) T S = retL (obList T[k]?) S := rfl
theorem retL_s (xs : List D) : retL (some xs) S = .ok (.v (.list xs)) S := rfl
/-! ### statements -/
theorem ev_skip : skipS ρ T S = .next ρ T S := rfl
theorem ev_seq (s u : SM) : seqS s u ρ T S = (s ρ T S).thn u := rfl
theorem ev_ret (m : EM Rv) : retS m ρ T S = (m ρ T S).out ρ Out.ret := rfl
def kDrop (ρ : Vn) (_ : Rv) (T S : Sto) : Out := .next ρ T S
theorem kDrop_a (r : Rv) : kDrop ρ r T S = .next ρ T S := rfl
theorem ev_drop (m : EM Rv) : dropS m ρ T S = (m ρ T S).out ρ (kDrop ρ) := rfl
def kSet (i : Nat) (ρ : Vn) (r : Rv) (T S : Sto) : Out := .next (ρ.set i (some r)) T S
theorem kSet_a (i : Nat) (r : Rv) : kSet i ρ r T S = .next (ρ.set i (some r)) T S := rfl
theorem ev_set (i : Nat) (m : EM Rv) : setS i m ρ T S = (m ρ T S).out ρ (kSet i ρ) := rfl
def kIf (s u : SM) (ρ : Vn) (b : Bool) (T S : Sto) : Out := if b = true then s ρ T S else u ρ T S
theorem kIf_a (s u : SM) (b : Bool) : kIf s u ρ b T S = if b = true then s ρ T S else u ρ T S := rfl
theorem ev_ifS (c : EM Bool) (s u : SM) : ifS c s u ρ T S = (c ρ T S).out ρ (kIf s u ρ) := rfl
def nxO (o : Option Vn) (T S : Sto) : Out := match o with
  | some ρ => .next ρ T S
  | none => .bad
theorem nxO_s : nxO (some ρ) T S = .next ρ T S := rfl
def asgR (g : TgM) (ρ : Vn) (S : Sto) (o : Option (D × Sto)) : Out := match o with
  | some (d, T') => nxO (g d ρ) T' S
  | none => .bad
theorem asgR_s (g : TgM) (d : D) : asgR g ρ S (some (d, T)) = nxO (g d ρ) T S := rfl
def kAsg (g : TgM) (ρ : Vn) (r : Rv) (T S : Sto) : Out := asgR g ρ S (toD r T)
theorem kAsg_a (g : TgM) (r : Rv) : kAsg g ρ r T S = asgR g ρ S (toD r T) := rfl
theorem ev_asg (g : TgM) (m : EM Rv) : asgS g m ρ T S = (m ρ T S).out ρ (kAsg g ρ) := by
  unfold asgS
  congr 1
def parR (i j : Nat) (ρ : Vn) (rs : List Rv) (T S : Sto) : Out := match rs with
  | [a, b] => .next ((ρ.set i (some a)).set j (some b)) T S
  | _ => .bad
theorem parR_s (i j : Nat) (a b : Rv) : parR i j ρ [a, b] T S = .next ((ρ.set i (some a)).set j (some b)) T S := rfl
theorem ev_par (i j : Nat) (ms : EM (List Rv)) : parS i j ms ρ T S = (ms ρ T S).out ρ (parR i j ρ) := rfl
def par3R (i j l : Nat) (ρ : Vn) (rs : List Rv) (T S : Sto) : Out := match rs with
  | [a, b, c] => .next (((ρ.set i (some a)).set j (some b)).set l (some c)) T S
  | _ => .bad
theorem par3R_s (i j l : Nat) (a b c : Rv) : par3R i j l ρ [a, b, c] T S = .next (((ρ.set i (some a)).set j (some b)).set l (some c)) T S := rfl
theorem ev_par3 (i j l : Nat) (ms : EM (List Rv)) : par3S i j l ms ρ T S = (ms ρ T S).out ρ (par3R i j l ρ) := rfl
def kUnp (is : List Nat) (ρ : Vn) (rs : List Rv) (T S : Sto) : Out := if rs.length = is.length then .next (setAll is rs ρ) T S else .bad
theorem kUnp_a (is : List Nat) (rs : List Rv) : kUnp is ρ rs T S = if rs.length = is.length then .next (setAll is rs ρ) T S else .bad := rfl
theorem ev_unp (is : List Nat) (ms : EM (List Rv)) : unpS is ms ρ T S = (ms ρ T S).out ρ (kUnp is ρ) := rfl
theorem setAll_c (i : Nat) (is : List Nat) (r : Rv) (rs : List Rv) : setAll (i :: is) (r :: rs) ρ = setAll is rs (ρ.set i (some r)) := rfl
theorem setAll_n : setAll [] [] ρ = ρ := rfl
def kFor (g : TgM) (body : SM) (ρ : Vn) (ds : List D) (T S : Sto) : Out := forD g body ds ρ T S
theorem kFor_a (g : TgM) (body : SM) (ds : List D) : kFor g body ρ ds T S = forD g body ds ρ T S := rfl
theorem ev_for (items : EM (List D)) (g : TgM) (body : SM) : forS items g body ρ T S = (items ρ T S).out ρ (kFor g body ρ) := rfl
def kForL (g : TgM) (body : SM) (ρ : Vn) (n : NX) (T S : Sto) : Out := forG n.nx g body n.fuel 0 ρ T S
theorem kForL_a (g : TgM) (body : SM) (n : NX) : kForL g body ρ n T S = forG n.nx g body n.fuel 0 ρ T S := rfl
theorem ev_forL (items : EM NX) (g : TgM) (body : SM) : forL items g body ρ T S = (items ρ T S).out ρ (kForL g body ρ) := rfl
/-! targets -/
theorem tg_name (i : Nat) (d : D) : tgName i d ρ = some (ρ.set i (some (.v d))) := rfl
theorem tg_tup (n : Nat) (gs : List D → Vn → Option Vn) (ds : List D) : tgTup n gs (.tuple ds) ρ = if ds.length = n then gs ds ρ else none := rfl
theorem tg_cons (g : TgM) (gs : List D → Vn → Option Vn) (d : D) (ds : List D) : tgsCons g gs (d :: ds) ρ = (g d ρ).bind (gs ds) := rfl
theorem tg_nil : tgsNil [] ρ = some ρ := rfl
/-! ### expressions -/
def gv (o : Option (Option Rv)) (T S : Sto) : Res Rv := match o with
  | some (some r) => .ok r T S
  | _ => .bad
theorem gv_s (r : Rv) : gv (some (some r)) T S = .ok r T S := rfl
theorem ev_getV (i : Nat) : getV i ρ T S = gv ρ[i]? T S := rfl
theorem ev_cst (d : D) : cst d ρ T S = .ok (.v d) T S := rfl
def kBin (o : Rv → Rv → Sto → Sto → Res Rv) (mb : EM Rv) (ρ : Vn) (a : Rv) (T S : Sto) : Res Rv := (mb ρ T S).bind (o a)
theorem kBin_a (o : Rv → Rv → Sto → Sto → Res Rv) (mb : EM Rv) (a : Rv) : kBin o mb ρ a T S = (mb ρ T S).bind (o a) := rfl
theorem ev_bin (o : Rv → Rv → Sto → Sto → Res Rv) (ma mb : EM Rv) : bin o ma mb ρ T S = (ma ρ T S).bind (kBin o mb ρ) := rfl
def bR (r : Rv) (T S : Sto) : Res Bool := match r with
  | .v (.bool b) => .ok b T S
  | _ => .bad
theorem bR_b (b : Bool) : bR (.v (.bool b)) T S = .ok b T S := rfl
theorem ev_asB (m : EM Rv) : asB m ρ T S = (m ρ T S).bind bR := rfl
def kNot (b : Bool) (T S : Sto) : Res Bool := .ok (!b) T S
theorem kNot_a (b : Bool) : kNot b T S = .ok (!b) T S := rfl
theorem ev_notM (m : EM Bool) : notM m ρ T S = (m ρ T S).bind kNot := rfl
def kAnd (n : EM Bool) (ρ : Vn) (b : Bool) (T S : Sto) : Res Bool := if b = true then n ρ T S else .ok false T S
theorem kAnd_a (n : EM Bool) (b : Bool) : kAnd n ρ b T S = if b = true then n ρ T S else .ok false T S := rfl
theorem ev_andM (m n : EM Bool) : andM m n ρ T S = (m ρ T S).bind (kAnd n ρ) := rfl
def kOr (n : EM Bool) (ρ : Vn) (b : Bool) (T S : Sto) : Res Bool := if b = true then .ok true T S else n ρ T S
theorem kOr_a (n : EM Bool) (b : Bool) : kOr n ρ b T S = if b = true then .ok true T S else n ρ T S := rfl
theorem ev_orM (m n : EM Bool) : orM m n ρ T S = (m ρ T S).bind (kOr n ρ) := rfl
def kAndB (n : EM Rv) (ρ : Vn) (b : Bool) (T S : Sto) : Res Rv := if b = true then n ρ T S else .ok (.v (.bool false)) T S
theorem kAndB_a (n : EM Rv) (b : Bool) : kAndB n ρ b T S = if b = true then n ρ T S else .ok (.v (.bool false)) T S := rfl
def kAndV (n : EM Rv) (ρ : Vn) (r : Rv) (T S : Sto) : Res Rv := (bR r T S).bind (kAndB n ρ)
theorem kAndV_a (n : EM Rv) (r : Rv) : kAndV n ρ r T S = (bR r T S).bind (kAndB n ρ) := rfl
theorem ev_andV (m n : EM Rv) : andV m n ρ T S = (m ρ T S).bind (kAndV n ρ) := by
  unfold andV
  congr 1; funext r T S
  cases r with
  | v d => cases d with
    | bool b => cases b <;> rfl
    | _ => rfl
  | _ => rfl
def kOrB (n : EM Rv) (ρ : Vn) (b : Bool) (T S : Sto) : Res Rv := if b = true then .ok (.v (.bool true)) T S else n ρ T S
theorem kOrB_a (n : EM Rv) (b : Bool) : kOrB n ρ b T S = if b = true then .ok (.v (.bool true)) T S else n ρ T S := rfl
def kOrV (n : EM Rv) (ρ : Vn) (r : Rv) (T S : Sto) : Res Rv := (bR r T S).bind (kOrB n ρ)
theorem kOrV_a (n : EM Rv) (r : Rv) : kOrV n ρ r T S = (bR r T S).bind (kOrB n ρ) := rfl
theorem ev_orV (m n : EM Rv) : orV m n ρ T S = (m ρ T S).bind (kOrV n ρ) := by
  unfold orV
  congr 1; funext r T S
  cases r with
  | v d => cases d with
    | bool b => cases b <;> rfl
    | _ => rfl
  | _ => rfl
def kNotB (b : Bool) (T S : Sto) : Res Rv := .ok (.v (.bool (!b))) T S
theorem kNotB_a (b : Bool) : kNotB b T S = .ok (.v (.bool (!b))) T S := rfl
def kNotV (r : Rv) (T S : Sto) : Res Rv := (bR r T S).bind kNotB
theorem kNotV_a (r : Rv) : kNotV r T S = (bR r T S).bind kNotB := rfl
theorem ev_notV (m : EM Rv) : notV m ρ T S = (m ρ T S).bind kNotV := by
  unfold notV
  congr 1; funext r T S
  cases r with
  | v d => cases d <;> rfl
  | _ => rfl
def kIfM (m n : EM Rv) (ρ : Vn) (b : Bool) (T S : Sto) : Res Rv := if b = true then m ρ T S else n ρ T S
theorem kIfM_a (m n : EM Rv) (b : Bool) : kIfM m n ρ b T S = if b = true then m ρ T S else n ρ T S := rfl
theorem ev_ifM (c : EM Bool) (m n : EM Rv) : ifM c m n ρ T S = (c ρ T S).bind (kIfM m n ρ) := rfl
def kCh4 (o' : Rv → Rv → Sto → Sto → Res Rv) (mc : EM Rv) (ρ : Vn) (b : Rv) (k : Bool) (T S : Sto) : Res Rv := if k = true then (mc ρ T S).bind (o' b) else .ok (.v (.bool false)) T S
theorem kCh4_a (o' : Rv → Rv → Sto → Sto → Res Rv) (mc : EM Rv) (b : Rv) (k : Bool) : kCh4 o' mc ρ b k T S = if k = true then (mc ρ T S).bind (o' b) else .ok (.v (.bool false)) T S := rfl
def kCh3 (o' : Rv → Rv → Sto → Sto → Res Rv) (mc : EM Rv) (ρ : Vn) (b : Rv) (r : Rv) (T S : Sto) : Res Rv := (bR r T S).bind (kCh4 o' mc ρ b)
theorem kCh3_a (o' : Rv → Rv → Sto → Sto → Res Rv) (mc : EM Rv) (b r : Rv) : kCh3 o' mc ρ b r T S = (bR r T S).bind (kCh4 o' mc ρ b) := rfl
def kCh2 (o o' : Rv → Rv → Sto → Sto → Res Rv) (mc : EM Rv) (ρ : Vn) (a b : Rv) (T S : Sto) : Res Rv := (o a b T S).bind (kCh3 o' mc ρ b)
theorem kCh2_a (o o' : Rv → Rv → Sto → Sto → Res Rv) (mc : EM Rv) (a b : Rv) : kCh2 o o' mc ρ a b T S = (o a b T S).bind (kCh3 o' mc ρ b) := rfl
def kCh1 (o o' : Rv → Rv → Sto → Sto → Res Rv) (mb mc : EM Rv) (ρ : Vn) (a : Rv) (T S : Sto) : Res Rv := (mb ρ T S).bind (kCh2 o o' mc ρ a)
theorem kCh1_a (o o' : Rv → Rv → Sto → Sto → Res Rv) (mb mc : EM Rv) (a : Rv) : kCh1 o o' mb mc ρ a T S = (mb ρ T S).bind (kCh2 o o' mc ρ a) := rfl
theorem ev_chn (o o' : Rv → Rv → Sto → Sto → Res Rv) (ma mb mc : EM Rv) : chn o o' ma mb mc ρ T S = (ma ρ T S).bind (kCh1 o o' mb mc ρ) := by
  unfold chn
  congr 1; funext a T S
  unfold kCh1
  congr 1; funext b T S
  unfold kCh2
  congr 1; funext r T S
  unfold kCh3 kCh4
  cases r with
  | v d => cases d with
    | bool b => cases b <;> rfl
    | _ => rfl
  | _ => rfl
theorem ev_nilA : nilA ρ T S = .ok [] T S := rfl
def kCons2 (r : Rv) (rs : List Rv) (T S : Sto) : Res (List Rv) := .ok (r :: rs) T S
theorem kCons2_a (r : Rv) (rs : List Rv) : kCons2 r rs T S = .ok (r :: rs) T S := rfl
def kCons (ms : EM (List Rv)) (ρ : Vn) (r : Rv) (T S : Sto) : Res (List Rv) := (ms ρ T S).bind (kCons2 r)
theorem kCons_a (ms : EM (List Rv)) (r : Rv) : kCons ms ρ r T S = (ms ρ T S).bind (kCons2 r) := rfl
theorem ev_consA (m : EM Rv) (ms : EM (List Rv)) : consA m ms ρ T S = (m ρ T S).bind (kCons ms ρ) := rfl
def kCat2 (rs zs : List Rv) (T S : Sto) : Res (List Rv) := .ok (rs ++ zs) T S
theorem kCat2_a (rs zs : List Rv) : kCat2 rs zs T S = .ok (rs ++ zs) T S := rfl
def kCat (mz : EM (List Rv)) (ρ : Vn) (rs : List Rv) (T S : Sto) : Res (List Rv) := (mz ρ T S).bind (kCat2 rs)
theorem kCat_a (mz : EM (List Rv)) (rs : List Rv) : kCat mz ρ rs T S = (mz ρ T S).bind (kCat2 rs) := rfl
theorem ev_catA (ms mz : EM (List Rv)) : catA ms mz ρ T S = (ms ρ T S).bind (kCat mz ρ) := rfl
theorem ev_dflA (ds : List D) : dflA ds ρ T S = .ok (ds.map .v) T S := rfl
def starR (ms : EM (List Rv)) (ρ : Vn) (o : Option D) (T S : Sto) : Res (List Rv) := match o with
  | some (.list xs) => (ms ρ T S).bind (kCat2 (xs.map .v))
  | some (.tuple xs) => (ms ρ T S).bind (kCat2 (xs.map .v))
  | _ => .bad
theorem starR_l (ms : EM (List Rv)) (xs : List D) : starR ms ρ (some (.list xs)) T S = (ms ρ T S).bind (kCat2 (xs.map .v)) := rfl
theorem starR_t (ms : EM (List Rv)) (xs : List D) : starR ms ρ (some (.tuple xs)) T S = (ms ρ T S).bind (kCat2 (xs.map .v)) := rfl
def kStar (ms : EM (List Rv)) (ρ : Vn) (r : Rv) (T S : Sto) : Res (List Rv) := starR ms ρ (look r T S) T S
theorem kStar_a (ms : EM (List Rv)) (r : Rv) : kStar ms ρ r T S = starR ms ρ (look r T S) T S := rfl
theorem ev_starA (m : EM Rv) (ms : EM (List Rv)) : starA m ms ρ T S = (m ρ T S).bind (kStar ms ρ) := rfl
theorem ev_callM (o : List Rv → Sto → Sto → Res Rv) (ms : EM (List Rv)) : callM o ms ρ T S = (ms ρ T S).bind o := rfl
/-! ### what values are -/
theorem toD_v (d : D) : toD (.v d) T = some (d, T) := rfl
def frzL (n : Nat) (T : Sto) (o : Option Ob) : Option (D × Sto) := match o with
  | some (.lst xs) => some (.list xs, T.set n (.frz xs))
  | some (.frz xs) => some (.list xs, T)
  | _ => none
theorem toD_own (n : Nat) : toD (.own n) T = frzL n T T[n]? := rfl
theorem frzL_l (n : Nat) (xs : List D) : frzL n T (some (.lst xs)) = some (.list xs, T.set n (.frz xs)) := rfl
theorem frzL_f (n : Nat) (xs : List D) : frzL n T (some (.frz xs)) = some (.list xs, T) := rfl
theorem toDs_n : toDs [] T = some ([], T) := rfl
def cD (d : D) (o : Option (List D × Sto)) : Option (List D × Sto) := match o with
  | some q => some (d :: q.1, q.2)
  | none => none
theorem cD_s (d : D) (ds : List D) : cD d (some (ds, T)) = some (d :: ds, T) := rfl
def dD (rs : List Rv) (o : Option (D × Sto)) : Option (List D × Sto) := match o with
  | some p => cD p.1 (toDs rs p.2)
  | none => none
theorem dD_s (rs : List Rv) (d : D) : dD rs (some (d, T)) = cD d (toDs rs T) := rfl
theorem toDs_c (r : Rv) (rs : List Rv) : toDs (r :: rs) T = dD rs (toD r T) := by
  show (match toD r T with | some (d, T1) => (match toDs rs T1 with | some (ds, T2) => some (d :: ds, T2) | none => none) | none => none) = _
  cases toD r T with
  | none => rfl
  | some p =>
    obtain ⟨d, T1⟩ := p
    show (match toDs rs T1 with | some (ds, T2) => some (d :: ds, T2) | none => none) = cD d (toDs rs T1)
    cases toDs rs T1 with
    | none => rfl
    | some q => rfl
def frzA (n : Nat) (T : Sto) (o : Option Ob) : Option (Rv × Sto) := match o with
  | some (.lst xs) => some (.v (.list xs), T.set n (.frz xs))
  | some (.frz xs) => some (.v (.list xs), T)
  | some (.dic kvs) => some (.frd kvs, T.set n (.frd kvs))
  | some (.frd kvs) => some (.frd kvs, T)
  | some (.dit kvs) => some (.fdt kvs, T.set n (.fdt kvs))
  | some (.fdt kvs) => some (.fdt kvs, T)
  | _ => none
theorem toA_v (d : D) : toA (.v d) T = some (.v d, T) := rfl
theorem toA_loc (n : Nat) : toA (.loc n) T = some (.loc n, T) := rfl
theorem toA_scr (ns : List Int) : toA (.scr ns) T = some (.scr ns, T) := rfl
theorem toA_frd (kvs : List (Key × D)) : toA (.frd kvs) T = some (.frd kvs, T) := rfl
theorem toA_fdt (kvs : List (List Key × D)) : toA (.fdt kvs) T = some (.fdt kvs, T) := rfl
theorem toA_own (n : Nat) : toA (.own n) T = frzA n T T[n]? := rfl
theorem frzA_l (n : Nat) (xs : List D) : frzA n T (some (.lst xs)) = some (.v (.list xs), T.set n (.frz xs)) := rfl
theorem frzA_f (n : Nat) (xs : List D) : frzA n T (some (.frz xs)) = some (.v (.list xs), T) := rfl
theorem frzA_d (n : Nat) (kvs : List (Key × D)) : frzA n T (some (.dic kvs)) = some (.frd kvs, T.set n (.frd kvs)) := rfl
theorem frzA_d2 (n : Nat) (kvs : List (Key × D)) : frzA n T (some (.frd kvs)) = some (.frd kvs, T) := rfl
theorem frzA_t (n : Nat) (kvs : List (List Key × D)) : frzA n T (some (.dit kvs)) = some (.fdt kvs, T.set n (.fdt kvs)) := rfl
theorem frzA_t2 (n : Nat) (kvs : List (List Key × D)) : frzA n T (some (.fdt kvs)) = some (.fdt kvs, T) := rfl
theorem toAs_n : toAs [] T = some ([], T) := rfl
def cA (d : Rv) (o : Option (List Rv × Sto)) : Option (List Rv × Sto) := match o with
  | some q => some (d :: q.1, q.2)
  | none => none
theorem cA_s (d : Rv) (ds : List Rv) : cA d (some (ds, T)) = some (d :: ds, T) := rfl
def dA (rs : List Rv) (o : Option (Rv × Sto)) : Option (List Rv × Sto) := match o with
  | some p => cA p.1 (toAs rs p.2)
  | none => none
theorem dA_s (rs : List Rv) (d : Rv) : dA rs (some (d, T)) = cA d (toAs rs T) := rfl
theorem toAs_c (r : Rv) (rs : List Rv) : toAs (r :: rs) T = dA rs (toA r T) := by
  show (match toA r T with | some (d, T1) => (match toAs rs T1 with | some (ds, T2) => some (d :: ds, T2) | none => none) | none => none) = _
  cases toA r T with
  | none => rfl
  | some p =>
    obtain ⟨d, T1⟩ := p
    show (match toAs rs T1 with | some (ds, T2) => some (d :: ds, T2) | none => none) = cA d (toAs rs T1)
    cases toAs rs T1 with
    | none => rfl
    | some q => rfl
theorem lk_v (d : D) : look (.v d) T S = some d := rfl
theorem look_own (n : Nat) : look (.own n) T S = (obList T[n]?).map .list := rfl
theorem look_loc (n : Nat) : look (.loc n) T S = (obList S[n]?).map .list := rfl
theorem look_scr (ns : List Int) : look (.scr ns) T S = some (.list (ns.map .int)) := rfl
theorem lst_v (xs : List D) : lstOf (.v (.list xs)) T S = some xs := rfl
theorem lst_own (n : Nat) : lstOf (.own n) T S = obList T[n]? := rfl
theorem lst_loc (n : Nat) : lstOf (.loc n) T S = obList S[n]? := rfl
/-! ### calls -/
def fcR (r : FRes) (T : Sto) : Res Rv := match r with
  | .ok r S => .ok r T S
  | .exn x S => .exn x T S
  | .bad => .bad
theorem fcR_ok (r : Rv) : fcR (.ok r S) T = .ok r T S := rfl
theorem fcR_exn (x : Exn) : fcR (.exn x S) T = .exn x T S := rfl
theorem fcR_ite (a b : FRes) : fcR (if c then a else b) T = if c then fcR a T else fcR b T := by split <;> rfl
def cfR (f : FM) (S : Sto) (o : Option (List Rv × Sto)) : Res Rv := match o with
  | some p => fcR (f p.1 S) p.2
  | none => .bad
theorem cfR_s (f : FM) (p : List Rv × Sto) : cfR f S (some p) = fcR (f p.1 S) p.2 := rfl
theorem ev_callF (f : FM) (rs : List Rv) : callF f rs T S = cfR f S (toAs rs T) := by
  unfold callF cfR fcR
  cases toAs rs T with
  | none => rfl
  | some p => obtain ⟨as, T'⟩ := p; rfl
/-! ### making -/
def tupR (o : Option (List D × Sto)) (S : Sto) : Res Rv := match o with
  | some p => if p.1.length ≤ 16777216 then .ok (.v (.tuple p.1)) p.2 S else .bad
  | none => .bad
theorem tupR_s (p : List D × Sto) : tupR (some p) S = if p.1.length ≤ 16777216 then .ok (.v (.tuple p.1)) p.2 S else .bad := rfl
def kTup (rs : List Rv) (T S : Sto) : Res Rv := tupR (toDs rs T) S
theorem kTup_a (rs : List Rv) : kTup rs T S = tupR (toDs rs T) S := rfl
theorem ev_tupM (ms : EM (List Rv)) : tupM ms ρ T S = (ms ρ T S).bind kTup := by
  unfold tupM kTup tupR
  congr 1; funext rs T S
  cases toDs rs T with
  | none => rfl
  | some p => obtain ⟨a, b⟩ := p; rfl
def lstR (o : Option (List D × Sto)) (S : Sto) : Res Rv := match o with
  | some p => if p.1.length ≤ 16777216 then .ok (.v (.list p.1)) p.2 S else .bad
  | none => .bad
theorem lstR_s (p : List D × Sto) : lstR (some p) S = if p.1.length ≤ 16777216 then .ok (.v (.list p.1)) p.2 S else .bad := rfl
def kLst (rs : List Rv) (T S : Sto) : Res Rv := lstR (toDs rs T) S
theorem kLst_a (rs : List Rv) : kLst rs T S = lstR (toDs rs T) S := rfl
theorem ev_lstM (ms : EM (List Rv)) : lstM ms ρ T S = (ms ρ T S).bind kLst := by
  unfold lstM kLst lstR
  congr 1; funext rs T S
  cases toDs rs T with
  | none => rfl
  | some p => obtain ⟨a, b⟩ := p; rfl
def ownR (o : Option (List D × Sto)) (S : Sto) : Res Rv := match o with
  | some p => if p.1.length ≤ 16777216 then .ok (.own p.2.length) (p.2 ++ [.lst p.1]) S else .bad
  | none => .bad
theorem ownR_s (p : List D × Sto) : ownR (some p) S = if p.1.length ≤ 16777216 then .ok (.own p.2.length) (p.2 ++ [.lst p.1]) S else .bad := rfl
def kOwn (rs : List Rv) (T S : Sto) : Res Rv := ownR (toDs rs T) S
theorem kOwn_a (rs : List Rv) : kOwn rs T S = ownR (toDs rs T) S := rfl
theorem ev_ownM (ms : EM (List Rv)) : ownM ms ρ T S = (ms ρ T S).bind kOwn := by
  unfold ownM kOwn ownR
  congr 1; funext rs T S
  cases toDs rs T with
  | none => rfl
  | some p => obtain ⟨a, b⟩ := p; rfl
def kLc (own : Bool) (g : TgM) (tests : EM Bool) (elt : EM Rv) (ρ : Vn) (ds : List D) (T S : Sto) : Res Rv := (compD g tests elt ρ ds T S).bind (newL own)
theorem kLc_a (own : Bool) (g : TgM) (tests : EM Bool) (elt : EM Rv) (ds : List D) : kLc own g tests elt ρ ds T S = (compD g tests elt ρ ds T S).bind (newL own) := rfl
theorem ev_lcM (own : Bool) (items : EM (List D)) (g : TgM) (tests : EM Bool) (elt : EM Rv) (vs : List Nat) : lcM own items g tests elt vs ρ T S = (items ρ T S).bind (kLc own g tests elt (wipeV ρ vs)) := rfl
def kLcL (own : Bool) (g : TgM) (tests : EM Bool) (elt : EM Rv) (ρ : Vn) (n : NX) (T S : Sto) : Res Rv := (compG n.nx g tests elt ρ n.fuel 0 T S).bind (newL own)
theorem kLcL_a (own : Bool) (g : TgM) (tests : EM Bool) (elt : EM Rv) (n : NX) : kLcL own g tests elt ρ n T S = (compG n.nx g tests elt ρ n.fuel 0 T S).bind (newL own) := rfl
theorem ev_lcL (own : Bool) (items : EM NX) (g : TgM) (tests : EM Bool) (elt : EM Rv) (vs : List Nat) : lcL own items g tests elt vs ρ T S = (items ρ T S).bind (kLcL own g tests elt (wipeV ρ vs)) := rfl
theorem wipe_n : wipeV ρ [] = ρ := rfl
theorem wipe_c (v : Nat) (vs : List Nat) : wipeV ρ (v :: vs) = (wipeV ρ vs).set v none := rfl
theorem ev_yes : yesM ρ T S = .ok true T S := rfl
theorem newL_f (ds : List D) : newL false ds T S = if ds.length ≤ 16777216 then .ok (.v (.list ds)) T S else .bad := rfl
theorem newL_t (ds : List D) : newL true ds T S = if ds.length ≤ 16777216 then .ok (.own T.length) (T ++ [.lst ds]) S else .bad := rfl
def itR (o : Option (D × Sto)) (S : Sto) : Res (List D) := match o with
  | some (.list xs, T') => .ok xs T' S
  | some (.tuple xs, T') => .ok xs T' S
  | some (.str x, T') => .ok (signs x) T' S
  | _ => .bad
theorem items_v (d : D) : itemsR (.v d) T S = itR (some (d, T)) S := rfl
theorem items_own (n : Nat) : itemsR (.own n) T S = itR (toD (.own n) T) S := rfl
theorem items_scr (ns : List Int) : itemsR (.scr ns) T S = .ok (ns.map .int) T S := rfl
theorem itR_l (xs : List D) : itR (some (.list xs, T)) S = .ok xs T S := rfl
theorem itR_t (xs : List D) : itR (some (.tuple xs, T)) S = .ok xs T S := rfl
theorem ev_seqM (m : EM Rv) : seqM m ρ T S = (m ρ T S).bind itemsR := rfl
def rngR (rs : List Rv) (T S : Sto) : Res (List D) := match rs with
  | [.v (.int n)] => if -(2 ^ 62) ≤ n ∧ n < 2 ^ 62 then .ok (intsD 0 n.toNat) T S else .bad
  | _ => .bad
theorem rngR_s (n : Int) : rngR [.v (.int n)] T S = if -(2 ^ 62) ≤ n ∧ n < 2 ^ 62 then .ok (intsD 0 n.toNat) T S else .bad := rfl
theorem rngR_n {n : Nat} (h : n < 2 ^ 62) : rngR [.v (.int (n : Int))] T S = .ok (intsD 0 n) T S := by
  rw [rngR_s, if_pos (by omega)]; rfl
theorem ev_rng1 (ms : EM (List Rv)) : rng1 ms ρ T S = (ms ρ T S).bind rngR := rfl
def zipR (o : Option (List D × Sto)) (S : Sto) : Res (List D) := match o with
  | some ([.list xs, .list ys], T') => .ok (zipD xs ys) T' S
  | some ([.tuple xs, .tuple ys], T') => .ok (zipD xs ys) T' S
  | _ => .bad
theorem zipR_l (xs ys : List D) : zipR (some ([.list xs, .list ys], T)) S = .ok (zipD xs ys) T S := rfl
theorem zipR_t (xs ys : List D) : zipR (some ([.tuple xs, .tuple ys], T)) S = .ok (zipD xs ys) T S := rfl
def kZip (rs : List Rv) (T S : Sto) : Res (List D) := zipR (toDs rs T) S
theorem kZip_a (rs : List Rv) : kZip rs T S = zipR (toDs rs T) S := rfl
theorem ev_zipM (ms : EM (List Rv)) : zipM ms ρ T S = (ms ρ T S).bind kZip := rfl
def enR (rs : List Rv) (T S : Sto) : Res (List D) := match rs with
  | [.v (.tuple xs)] => .ok (enumD xs) T S
  | _ => .bad
theorem enR_s (xs : List D) : enR [.v (.tuple xs)] T S = .ok (enumD xs) T S := rfl
theorem ev_enumTM (ms : EM (List Rv)) : enumTM ms ρ T S = (ms ρ T S).bind enR := rfl
def lvR (w : Nat → D → D) (r : Rv) (o : Option (List D)) (T S : Sto) : Res NX := match o with
  | some xs => .ok ⟨liveN w r, xs.length⟩ T S
  | none => .bad
theorem lvR_s (w : Nat → D → D) (r : Rv) (xs : List D) : lvR w r (some xs) T S = .ok ⟨liveN w r, xs.length⟩ T S := rfl
def kLv (w : Nat → D → D) (r : Rv) (T S : Sto) : Res NX := lvR w r (lstOf r T S) T S
theorem kLv_a (w : Nat → D → D) (r : Rv) : kLv w r T S = lvR w r (lstOf r T S) T S := rfl
theorem ev_liveM (w : Nat → D → D) (m : EM Rv) : liveM w m ρ T S = (m ρ T S).bind (kLv w) := rfl
def lvE (rs : List Rv) (T S : Sto) : Res NX := match rs with
  | [r] => lvR enumW r (lstOf r T S) T S
  | _ => .bad
theorem lvE_s (r : Rv) : lvE [r] T S = lvR enumW r (lstOf r T S) T S := rfl
theorem ev_liveE (ms : EM (List Rv)) : liveE ms ρ T S = (ms ρ T S).bind lvE := by
  unfold liveE
  congr 1
theorem ev_liveXM (m : EM Rv) : liveXM m ρ T S = (m ρ T S).bind kLvX := rfl
theorem kLvX_t (xs : List D) : kLvX (.v (.tuple xs)) T S = .ok ⟨liveN seqW (.v (.list xs)), xs.length⟩ T S := rfl
theorem kLvX_l (n : Nat) : kLvX (.loc n) T S = lvR seqW (.loc n) (lstOf (.loc n) T S) T S := rfl
theorem kLvX_o (n : Nat) : kLvX (.own n) T S = lvR seqW (.own n) (lstOf (.own n) T S) T S := rfl
theorem kLvX_v (xs : List D) : kLvX (.v (.list xs)) T S = .ok ⟨liveN seqW (.v (.list xs)), xs.length⟩ T S := rfl
theorem ev_liveX (ms : EM (List Rv)) : liveX ms ρ T S = (ms ρ T S).bind lvX := rfl
theorem lvX_t (xs : List D) : lvX [.v (.tuple xs)] T S = .ok ⟨liveN enumW (.v (.list xs)), xs.length⟩ T S := rfl
theorem lvX_l (n : Nat) : lvX [.loc n] T S = lvR enumW (.loc n) (lstOf (.loc n) T S) T S := rfl
theorem lvX_o (n : Nat) : lvX [.own n] T S = lvR enumW (.own n) (lstOf (.own n) T S) T S := rfl
/-! ### items, slices, methods -/
def ixR (o : Option D) (T S : Sto) : Res Rv := match o with
  | some d => .ok (.v d) T S
  | none => .bad
theorem ixR_s (d : D) : ixR (some d) T S = .ok (.v d) T S := rfl
def oixR (o : Option D) (i : Int) (T S : Sto) : Res Rv := match o with
  | some (.list xs) => ixR (atI xs i) T S
  | some (.tuple xs) => ixR (atI xs i) T S
  | some (.str x) => (match atI x.cps.toList i with | some c => if x.length ≤ 16777216 then .ok (.v (.str ⟨#[c]⟩)) T S else .bad | none => .bad)
  | _ => .bad
theorem ev_ix (r : Rv) (i : Int) : o_ix r (.v (.int i)) T S = oixR (look r T S) i T S := rfl
theorem oix_t (xs : List D) (i : Int) : oixR (some (.tuple xs)) i T S = ixR (atI xs i) T S := rfl
theorem oix_l (xs : List D) (i : Int) : oixR (some (.list xs)) i T S = ixR (atI xs i) T S := rfl
def prtR (r : Rv) (T S : Sto) : Res (Option Int) := match r with
  | .v (.int i) => .ok (some i) T S
  | _ => .bad
theorem prtR_s (i : Int) : prtR (.v (.int i)) T S = .ok (some i) T S := rfl
theorem ev_partN : partM none ρ T S = .ok none T S := rfl
theorem ev_partS (m : EM Rv) : partM (some m) ρ T S = (m ρ T S).bind prtR := rfl
def kCut2 (hi : Option (EM Rv)) (ρ : Vn) (a : Rv) (l : Option Int) (T S : Sto) : Res Rv := (partM hi ρ T S).bind (cutR a l)
theorem kCut2_a (hi : Option (EM Rv)) (a : Rv) (l : Option Int) : kCut2 hi ρ a l T S = (partM hi ρ T S).bind (cutR a l) := rfl
def kCut (lo hi : Option (EM Rv)) (ρ : Vn) (a : Rv) (T S : Sto) : Res Rv := (partM lo ρ T S).bind (kCut2 hi ρ a)
theorem kCut_a (lo hi : Option (EM Rv)) (a : Rv) : kCut lo hi ρ a T S = (partM lo ρ T S).bind (kCut2 hi ρ a) := rfl
theorem ev_cutM (m : EM Rv) (lo hi : Option (EM Rv)) : cutM m lo hi ρ T S = (m ρ T S).bind (kCut lo hi ρ) := rfl
def cutO (o : Option D) (lo hi : Option Int) (T S : Sto) : Res Rv := match o with
  | some (.list xs) => .ok (.v (.list (cutL xs lo hi))) T S
  | some (.tuple xs) => .ok (.v (.tuple (cutL xs lo hi))) T S
  | some (.str x) => if x.length ≤ 16777216 then .ok (.v (.str (cutS x lo hi))) T S else .bad
  | _ => .bad
theorem ev_cutR (r : Rv) (lo hi : Option Int) : cutR r lo hi T S = cutO (look r T S) lo hi T S := rfl
theorem cutO_l (xs : List D) (lo hi : Option Int) : cutO (some (.list xs)) lo hi T S = .ok (.v (.list (cutL xs lo hi))) T S := rfl
theorem cutO_t (xs : List D) (lo hi : Option Int) : cutO (some (.tuple xs)) lo hi T S = .ok (.v (.tuple (cutL xs lo hi))) T S := rfl
def kMeth (ty : Rv → Sto → Sto → Bool) (o : Rv → List Rv → Sto → Sto → Res Rv) (ms : EM (List Rv)) (ρ : Vn) (r : Rv) (T S : Sto) : Res Rv := if ty r T S = true then (ms ρ T S).bind (o r) else .bad
theorem kMeth_a (ty : Rv → Sto → Sto → Bool) (o : Rv → List Rv → Sto → Sto → Res Rv) (ms : EM (List Rv)) (r : Rv) : kMeth ty o ms ρ r T S = if ty r T S = true then (ms ρ T S).bind (o r) else .bad := rfl
theorem ev_methM (ty : Rv → Sto → Sto → Bool) (o : Rv → List Rv → Sto → Sto → Res Rv) (mo : EM Rv) (ms : EM (List Rv)) : methM ty o mo ms ρ T S = (mo ρ T S).bind (kMeth ty o ms ρ) := rfl
theorem isL_own (n : Nat) : isL (.own n) T S = (obList T[n]?).isSome := rfl
def appO (n : Nat) (d : D) (T S : Sto) (o : Option Ob) : Res Rv := match o with
  | some (.lst xs) => if xs.length < 16777216 then .ok (.v .none) (T.set n (.lst (xs ++ [d]))) S else .bad
  | _ => .bad
theorem app_v (n : Nat) (d : D) : appendR (.own n) [.v d] T S = appO n d T S T[n]? := rfl
theorem appO_s (n : Nat) (d : D) (xs : List D) : appO n d T S (some (.lst xs)) = if xs.length < 16777216 then .ok (.v .none) (T.set n (.lst (xs ++ [d]))) S else .bad := rfl
def extO (n : Nat) (ys : List D) (T S : Sto) (o : Option Ob) : Res Rv := match o with
  | some (.lst xs) => if xs.length + ys.length ≤ 16777216 then .ok (.v .none) (T.set n (.lst (xs ++ ys))) S else .bad
  | _ => .bad
theorem ext_v (n : Nat) (ys : List D) : extendR (.own n) [.v (.list ys)] T S = extO n ys T S T[n]? := rfl
theorem extO_s (n : Nat) (ys xs : List D) : extO n ys T S (some (.lst xs)) = if xs.length + ys.length ≤ 16777216 then .ok (.v .none) (T.set n (.lst (xs ++ ys))) S else .bad := rfl
/-! ### dicts -/
def dgtO (o : Option (List (List Key × D))) (k : Option (List Key)) (T S : Sto) : Res Rv := match o, k with
  | some kvs, some k => ixR (findG kvs k) T S
  | _, _ => .bad
theorem ev_dgetT (a b : Rv) : dgetT a b T S = dgtO (ditR a T S) (tkey b) T S := rfl
theorem dgtO_s (kvs : List (List Key × D)) (k : List Key) : dgtO (some kvs) (some k) T S = ixR (findG kvs k) T S := rfl
def dinO (neg : Bool) (o : Option (List (List Key × D))) (k : Option (List Key)) (T S : Sto) : Res Rv := match o, k with
  | some kvs, some k => .ok (.v (.bool (neg != (findG kvs k).isSome))) T S
  | _, _ => .bad
theorem ev_dinT (neg : Bool) (a b : Rv) : o_dinT neg a b T S = dinO neg (ditR b T S) (tkey a) T S := rfl
theorem dinO_s (neg : Bool) (kvs : List (List Key × D)) (k : List Key) : dinO neg (some kvs) (some k) T S = .ok (.v (.bool (neg != (findG kvs k).isSome))) T S := rfl
theorem dit_f (kvs : List (List Key × D)) : ditR (.fdt kvs) T S = some kvs := rfl
theorem dit_own (n : Nat) : ditR (.own n) T S = obDit T[n]? := rfl
theorem obDit_s (kvs : List (List Key × D)) : obDit (some (.dit kvs)) = some kvs := rfl
theorem obDit_f (kvs : List (List Key × D)) : obDit (some (.fdt kvs)) = some kvs := rfl
theorem tkey_2 (x y : Str) : tkey (.v (.tuple [.str x, .str y])) = some [.inr x, .inr y] := rfl
def dptO (n : Nat) (k : Option (List Key)) (o : Option (D × Sto)) (ρ : Vn) (S : Sto) : Out := match k, o with
  | some k, some (d, T') => (match T'[n]? with
    | some (.dit kvs) => if kvs.length < 16777216 then .next ρ (T'.set n (.dit (putG kvs k d))) S else .bad
    | _ => .bad)
  | _, _ => .bad
def dptR (a : Rv) (k : Option (List Key)) (o : Option (D × Sto)) (ρ : Vn) (S : Sto) : Out := match a with
  | .own n => dptO n k o ρ S
  | _ => .bad
def kDp3 (r a : Rv) (ρ : Vn) (b : Rv) (T S : Sto) : Out := dptR a (tkey b) (toD r T) ρ S
theorem kDp3_a (r a b : Rv) : kDp3 r a ρ b T S = dptR a (tkey b) (toD r T) ρ S := rfl
def kDp2 (mk : EM Rv) (r : Rv) (ρ : Vn) (a : Rv) (T S : Sto) : Out := (mk ρ T S).out ρ (kDp3 r a ρ)
theorem kDp2_a (mk : EM Rv) (r a : Rv) : kDp2 mk r ρ a T S = (mk ρ T S).out ρ (kDp3 r a ρ) := rfl
def kDp1 (md mk : EM Rv) (ρ : Vn) (r : Rv) (T S : Sto) : Out := (md ρ T S).out ρ (kDp2 mk r ρ)
theorem kDp1_a (md mk : EM Rv) (r : Rv) : kDp1 md mk ρ r T S = (md ρ T S).out ρ (kDp2 mk r ρ) := rfl
theorem ev_dputT (md mk m : EM Rv) : dputT md mk m ρ T S = (m ρ T S).out ρ (kDp1 md mk ρ) := by
  unfold dputT
  congr 1; funext r T S
  unfold kDp1
  congr 1; funext a T S
  unfold kDp2
  congr 1; funext b T S
  unfold kDp3 dptR dptO
  cases a with
  | own n =>
    cases tkey b with
    | none => rfl
    | some k => cases toD r T with
      | none => rfl
      | some p => obtain ⟨d, T'⟩ := p; rfl
  | _ => rfl
theorem dptR_o (n : Nat) (k : Option (List Key)) (o : Option (D × Sto)) : dptR (.own n) k o ρ S = dptO n k o ρ S := rfl
def dpt1 (n : Nat) (k : List Key) (d : D) (ρ : Vn) (T S : Sto) (o : Option Ob) : Out := match o with
  | some (.dit kvs) => if kvs.length < 16777216 then .next ρ (T.set n (.dit (putG kvs k d))) S else .bad
  | _ => .bad
theorem dptO_s (n : Nat) (k : List Key) (d : D) : dptO n (some k) (some (d, T)) ρ S = dpt1 n k d ρ T S T[n]? := rfl
theorem dpt1_s (n : Nat) (k : List Key) (d : D) (kvs : List (List Key × D)) : dpt1 n k d ρ T S (some (.dit kvs)) = if kvs.length < 16777216 then .next ρ (T.set n (.dit (putG kvs k d))) S else .bad := rfl
theorem ev_dnewT : dnewT ρ T S = .ok (.own T.length) (T ++ [.dit []]) S := rfl
theorem ev_dnewM : dnewM ρ T S = .ok (.own T.length) (T ++ [.dic []]) S := rfl
/-! ### calls of the language's own -/
def lenO (o : Option D) (T S : Sto) : Res Rv := match o with
  | some (.list xs) => .ok (.v (.int xs.length)) T S
  | some (.tuple xs) => .ok (.v (.int xs.length)) T S
  | some (.str x) => if x.length ≤ 16777216 then .ok (.v (.int x.length)) T S else .bad
  | _ => .bad
theorem ev_len (r : Rv) : c_len [r] T S = lenO (look r T S) T S := rfl
theorem lenO_l (xs : List D) : lenO (some (.list xs)) T S = .ok (.v (.int xs.length)) T S := rfl
theorem lenO_t (xs : List D) : lenO (some (.tuple xs)) T S = .ok (.v (.int xs.length)) T S := rfl
def tplO (o : Option D) (T S : Sto) : Res Rv := match o with
  | some (.list xs) => .ok (.v (.tuple xs)) T S
  | some (.tuple xs) => .ok (.v (.tuple xs)) T S
  | _ => .bad
theorem ev_tuple (r : Rv) : c_tuple [r] T S = tplO (look r T S) T S := rfl
theorem tplO_l (xs : List D) : tplO (some (.list xs)) T S = .ok (.v (.tuple xs)) T S := rfl
theorem tplO_t (xs : List D) : tplO (some (.tuple xs)) T S = .ok (.v (.tuple xs)) T S := rfl
def lsO (own : Bool) (o : Option D) (T S : Sto) : Res Rv := match o with
  | some (.list xs) => if own then .ok (.own T.length) (T ++ [.lst xs]) S else .ok (.v (.list xs)) T S
  | some (.tuple xs) => if own then .ok (.own T.length) (T ++ [.lst xs]) S else .ok (.v (.list xs)) T S
  | _ => .bad
theorem ev_list (own : Bool) (r : Rv) : c_list own [r] T S = lsO own (look r T S) T S := rfl
theorem lsO_l (xs : List D) : lsO false (some (.list xs)) T S = .ok (.v (.list xs)) T S := rfl
theorem lsO_t (xs : List D) : lsO false (some (.tuple xs)) T S = .ok (.v (.list xs)) T S := rfl
theorem lsO_lo (xs : List D) : lsO true (some (.list xs)) T S = .ok (.own T.length) (T ++ [.lst xs]) S := rfl
theorem lsO_to (xs : List D) : lsO true (some (.tuple xs)) T S = .ok (.own T.length) (T ++ [.lst xs]) S := rfl
theorem ev_int (i : Int) : c_int [.v (.int i)] T S = .ok (.v (.int i)) T S := rfl
def boolsO (f : List Bool → Bool) (o : Option (List Bool)) (T S : Sto) : Res Rv := match o with
  | some bs => .ok (.v (.bool (f bs))) T S
  | none => .bad
def allO (f : List Bool → Bool) (o : Option D) (T S : Sto) : Res Rv := match o with
  | some (.list xs) => boolsO f (bools xs) T S
  | _ => .bad
theorem ev_all (r : Rv) : c_all [r] T S = allO (fun bs => bs.all id) (look r T S) T S := rfl
theorem ev_any (r : Rv) : c_any [r] T S = allO (fun bs => bs.any id) (look r T S) T S := rfl
def srtO (o : Option D) (T S : Sto) : Res Rv := match o with
  | some (.list xs) => if sortOk xs = true then .ok (.v (.list (sortD xs))) T S else .bad
  | _ => .bad
theorem ev_sorted (r : Rv) : c_sorted [r] T S = srtO (look r T S) T S := rfl
def negR (r : Rv) (T S : Sto) : Res Rv := match r with
  | .v (.int i) => .ok (.v (.int (-i))) T S
  | _ => .bad
theorem ev_neg (m : EM Rv) : negM m ρ T S = (m ρ T S).bind negR := rfl
theorem negR_s (i : Int) : negR (.v (.int i)) T S = .ok (.v (.int (-i))) T S := rfl
def revR (o : Option D) (T S : Sto) : Res Rv := match o with
  | some (.tuple xs) => .ok (.v (.tuple xs.reverse)) T S
  | _ => .bad
def kRev (r : Rv) (T S : Sto) : Res Rv := revR (look r T S) T S
theorem kRev_a (r : Rv) : kRev r T S = revR (look r T S) T S := rfl
theorem ev_rev (m : EM Rv) : revM m ρ T S = (m ρ T S).bind kRev := rfl
theorem revR_t (xs : List D) : revR (some (.tuple xs)) T S = .ok (.v (.tuple xs.reverse)) T S := rfl
theorem isN_n (neg : Bool) : isN neg (.v .none) (.v .none) T S = .ok (.v (.bool !neg)) T S := rfl
theorem isN_s (neg : Bool) (x : Str) : isN neg (.v (.str x)) (.v .none) T S = .ok (.v (.bool neg)) T S := rfl
theorem isN_t (neg : Bool) (xs : List D) : isN neg (.v (.tuple xs)) (.v .none) T S = .ok (.v (.bool neg)) T S := rfl
def isiO (c : Ty) (o : Option Ty) (T S : Sto) : Res Rv := match o with
  | some t => .ok (.v (.bool (t.isa c))) T S
  | none => .bad
def kIsi (c : Ty) (r : Rv) (T S : Sto) : Res Rv := isiO c (tyR r T S) T S
theorem kIsi_a (c : Ty) (r : Rv) : kIsi c r T S = isiO c (tyR r T S) T S := rfl
theorem ev_isi (c : Ty) (m : EM Rv) : isiM c m ρ T S = (m ρ T S).bind (kIsi c) := rfl
theorem isiO_s (c t : Ty) : isiO c (some t) T S = .ok (.v (.bool (t.isa c))) T S := rfl
theorem ty_v (d : D) : tyR (.v d) T S = tyD d := rfl
def rsR (cls f1 f2 : Str) (ρ : Vn) (S : Sto) (o : Option (List D × Sto)) : Out := match o with
  | some ([d1, d2], T') => .exn ⟨cls, [(f2, d2), (f1, d1)]⟩ ρ T' S
  | _ => .bad
def kRs (cls f1 f2 : Str) (ρ : Vn) (rs : List Rv) (T S : Sto) : Out := rsR cls f1 f2 ρ S (toDs rs T)
theorem kRs_a (cls f1 f2 : Str) (rs : List Rv) : kRs cls f1 f2 ρ rs T S = rsR cls f1 f2 ρ S (toDs rs T) := rfl
theorem ev_raise (cls f1 f2 : Str) (ms : EM (List Rv)) : raiseS cls f1 f2 ms ρ T S = (ms ρ T S).out ρ (kRs cls f1 f2 ρ) := rfl
theorem rsR_s (cls f1 f2 : Str) (d1 d2 : D) : rsR cls f1 f2 ρ S (some ([d1, d2], T)) = .exn ⟨cls, [(f2, d2), (f1, d1)]⟩ ρ T S := rfl
end
end RB
end
/-! text REv2 -/
section
set_option Elab.async false
set_option linter.all false
set_option maxRecDepth 100000
set_option maxHeartbeats 4000000
/-! REv2: loops and comprehensions over told things. -/
namespace RB
open PySem PySem.Spec PyProof.Rows L2
section
variable {α : Type} {enc : α → D} {g : TgM} {tests : EM Bool} {elt : EM Rv} {ρ : Vn} {T S : Sto}
/-- a comprehension over told things: filter, then map -/
theorem comp_enc (p : α → Bool) (f : α → D) : ∀ {xs : List α}, (∀ a ∈ xs, ∃ ρ', g (enc a) ρ = some ρ' ∧ tests ρ' T S = .ok (p a) T S ∧ (p a = true → elt ρ' T S = .ok (.v (f a)) T S)) → compD g tests elt ρ (xs.map enc) T S = .ok ((xs.filter p).map f) T S
  | [], _ => rfl
  | a :: xs, h => by
    obtain ⟨ρ', h1, h2, h3⟩ := h a List.mem_cons_self
    have ih := comp_enc p f (xs := xs) fun e he => h e (List.mem_cons_of_mem _ he)
    rw [List.map_cons]
    unfold compD
    rw [h1]
    show (match tests ρ' T S with
        | .ok true T1 S1 => (match elt ρ' T1 S1 with
          | .ok r T2 S2 => (match toD r T2 with
            | some (d', T3) => (compD g tests elt ρ (xs.map enc) T3 S2).bind fun rs T S => .ok (d' :: rs) T S
            | none => .bad)
          | _ => .bad)
        | .ok false T1 S1 => compD g tests elt ρ (xs.map enc) T1 S1
        | _ => .bad) = _
    rw [h2]
    cases hp : p a with
    | false =>
      show compD g tests elt ρ (xs.map enc) T S = _
      rw [ih, List.filter_cons, hp]; rfl
    | true =>
      show (match elt ρ' T S with
          | .ok r T2 S2 => (match toD r T2 with
            | some (d', T3) => (compD g tests elt ρ (xs.map enc) T3 S2).bind fun rs T S => .ok (d' :: rs) T S
            | none => .bad)
          | _ => .bad) = _
      rw [h3 hp]
      show (compD g tests elt ρ (xs.map enc) T S).bind (fun rs T S => .ok (f a :: rs) T S) = _
      rw [ih, List.filter_cons, hp]; rfl
end
/-! ### walks -/
def nexts (o : Out) (P : Vn → Sto → Sto → Prop) : Prop := ∃ ρ T S, (o = .next ρ T S ∨ o = .cnt ρ T S) ∧ P ρ T S
section
variable {α : Type} {enc : α → D} {g : TgM} {body : SM}
/-- a walk by an invariant over what was met -/
theorem for_enc (I : List α → Vn → Sto → Sto → Prop) {xs0 : List α} (hs : ∀ pre a post ρ T S, xs0 = pre ++ a :: post → I pre ρ T S → ∃ ρ1, g (enc a) ρ = some ρ1 ∧ nexts (body ρ1 T S) (I (pre ++ [a]))) :
    ∀ (xs pre : List α) (ρ : Vn) (T S : Sto), xs0 = pre ++ xs → I pre ρ T S → ∃ ρ' T' S', forD g body (xs.map enc) ρ T S = .next ρ' T' S' ∧ I xs0 ρ' T' S'
  | [], pre, ρ, T, S, e, h => ⟨ρ, T, S, rfl, by rw [e, List.append_nil]; exact h⟩
  | a :: xs, pre, ρ, T, S, e, h => by
    obtain ⟨ρ1, h1, ρ2, T2, S2, h2, h3⟩ := hs pre a xs ρ T S e h
    obtain ⟨ρ', T', S', h4, h5⟩ := for_enc I hs xs (pre ++ [a]) ρ2 T2 S2 (by rw [e, List.append_assoc]; rfl) h3
    refine ⟨ρ', T', S', ?_, h5⟩
    rw [List.map_cons]
    unfold forD
    rw [h1]
    show (match body ρ1 T S with
      | .next ρ1 T1 S1 => forD g body (xs.map enc) ρ1 T1 S1
      | .cnt ρ1 T1 S1 => forD g body (xs.map enc) ρ1 T1 S1
      | .brk ρ1 T1 S1 => .next ρ1 T1 S1
      | o => o) = _
    rcases h2 with h2 | h2 <;> rw [h2] <;> exact h4
theorem for_run (I : List α → Vn → Sto → Sto → Prop) {xs : List α} {ρ : Vn} {T S : Sto} (h0 : I [] ρ T S) (hs : ∀ pre a post ρ T S, xs = pre ++ a :: post → I pre ρ T S → ∃ ρ1, g (enc a) ρ = some ρ1 ∧ nexts (body ρ1 T S) (I (pre ++ [a]))) :
    ∃ ρ' T' S', forD g body (xs.map enc) ρ T S = .next ρ' T' S' ∧ I xs ρ' T' S' := for_enc I hs xs [] ρ T S rfl h0
end
/-! ### told things that are told apart -/
structure Enc {α : Type} (enc : α → D) : Prop where
  inj : ∀ a b, PyData.eqv (enc a) (enc b) = true ↔ a = b
  dep : ∀ a, (enc a).depth ≤ 30
theorem Enc.eqv {α : Type} [DecidableEq α] {enc : α → D} (h : Enc enc) (a b : α) : PyData.eqv (enc a) (enc b) = decide (a = b) := by
  have := h.inj a b
  by_cases e : a = b
  · rw [decide_eq_true e]; exact this.mpr e
  · rw [decide_eq_false e]
    cases q : PyData.eqv (enc a) (enc b) with
    | false => rfl
    | true => exact (e (this.mp q)).elim
theorem depthAll_le {k : Nat} : ∀ {ds : List D}, (∀ d ∈ ds, d.depth ≤ k) → PyData.depthAll ds ≤ k
  | [], _ => by simp [PyData.depthAll]
  | d :: ds, h => by
    have h1 := h d List.mem_cons_self
    have h2 := depthAll_le (ds := ds) fun e he => h e (List.mem_cons_of_mem _ he)
    simp only [PyData.depthAll]
    omega
theorem enc_str : Enc PyData.str := ⟨fun a b => by simp [PyData.eqv], fun a => by simp [PyData.depth]⟩
theorem enc_int : Enc PyData.int := ⟨fun a b => by simp [PyData.eqv, BEq.beq], fun a => by simp [PyData.depth]⟩
theorem eqvAll_map {α : Type} {enc : α → D} (h : Enc enc) : ∀ xs ys : List α, PyData.eqvAll (xs.map enc) (ys.map enc) = true ↔ xs = ys
  | [], [] => by simp [PyData.eqvAll]
  | [], y :: ys => by simp [PyData.eqvAll]
  | x :: xs, [] => by simp [PyData.eqvAll]
  | x :: xs, y :: ys => by
    rw [List.map_cons, List.map_cons]
    simp only [PyData.eqvAll, Bool.and_eq_true, h.inj, eqvAll_map h xs ys, List.cons.injEq]
theorem eqv_tup (xs ys : List D) : PyData.eqv (.tuple xs) (.tuple ys) = PyData.eqvAll xs ys := by simp [PyData.eqv]
theorem eqv_lst (xs ys : List D) : PyData.eqv (.list xs) (.list ys) = PyData.eqvAll xs ys := by simp [PyData.eqv]
theorem depth_tup (xs : List D) : (PyData.tuple xs).depth = PyData.depthAll xs + 1 := by
  simp [PyData.depth, Nat.add_comm]
theorem depth_lst (xs : List D) : (PyData.list xs).depth = PyData.depthAll xs + 1 := by
  simp [PyData.depth, Nat.add_comm]
section
variable {α : Type} [DecidableEq α] {enc : α → D} (T S : Sto)
def inO (neg : Bool) (a b : Option D) (T S : Sto) : Res Rv := match b with
  | some (.str z) => (match a with
    | some (.str x) => (match x.cps.toList with
      | [c] => .ok (.v (.bool (if neg then !decide (c ∈ z.cps.toList) else decide (c ∈ z.cps.toList)))) T S
      | _ => .bad)
    | _ => .bad)
  | some (.list xs) => (match a with
    | some d => if min (PyData.depthAll xs) d.depth ≤ 60 then .ok (.v (.bool (if neg then !xs.any (fun y => PyData.eqv y d) else xs.any fun y => PyData.eqv y d))) T S else .bad
    | none => .bad)
  | some (.tuple xs) => (match a with
    | some d => if min (PyData.depthAll xs) d.depth ≤ 60 then .ok (.v (.bool (if neg then !xs.any (fun y => PyData.eqv y d) else xs.any fun y => PyData.eqv y d))) T S else .bad
    | none => .bad)
  | _ => .bad
theorem ev_in (neg : Bool) (a b : Rv) : o_in neg a b T S = inO neg (look a T S) (look b T S) T S := rfl
def eqO (neg : Bool) (a b : Option D) (T S : Sto) : Res Rv := match a, b with
  | some d, some e => if deep d e = true then .ok (.v (.bool (neg != PyData.eqv d e))) T S else .bad
  | _, _ => .bad
theorem ev_eq (a b : Rv) : o_eq a b T S = eqO false (look a T S) (look b T S) T S := by
  unfold o_eq o_cmp eqO
  cases look a T S with
  | none => rfl
  | some d => cases look b T S with
    | none => rfl
    | some e => simp
theorem ev_ne (a b : Rv) : o_ne a b T S = eqO true (look a T S) (look b T S) T S := by
  unfold o_ne o_cmp eqO
  cases look a T S with
  | none => rfl
  | some d => cases look b T S with
    | none => rfl
    | some e => simp
theorem eqO_e (h : Enc enc) (neg : Bool) (a b : α) : eqO neg (some (enc a)) (some (enc b)) T S = .ok (.v (.bool (neg != decide (a = b)))) T S := by
  show (if deep (enc a) (enc b) = true then _ else _) = _
  rw [if_pos (deep0 _ _ (.inl (by have := h.dep a; omega))), h.eqv]
theorem eqO_str (neg : Bool) (a b : Str) : eqO neg (some (.str a)) (some (.str b)) T S = .ok (.v (.bool (neg != decide (a = b)))) T S := eqO_e T S enc_str neg a b
theorem eqO_int (neg : Bool) (a b : Int) : eqO neg (some (.int a)) (some (.int b)) T S = .ok (.v (.bool (neg != decide (a = b)))) T S := eqO_e T S enc_int neg a b
theorem eqO_nil (neg : Bool) (xs : List D) : eqO neg (some (.list xs)) (some (.list [])) T S = .ok (.v (.bool (neg != xs.isEmpty))) T S := by
  show (if deep (.list xs) (.list []) = true then _ else _) = _
  rw [if_pos (deep0 _ _ (.inr (by rw [depth_nilL]; decide))), eqv_lst, eqvAll_nil]
theorem eqO_nilT (neg : Bool) (xs : List D) : eqO neg (some (.tuple xs)) (some (.tuple [])) T S = .ok (.v (.bool (neg != xs.isEmpty))) T S := by
  show (if deep (.tuple xs) (.tuple []) = true then _ else _) = _
  rw [if_pos (deep0 _ _ (.inr (by rw [depth_nilT]; decide))), eqv_tup, eqvAll_nil]
end
theorem Enc.tup {α : Type} {enc : α → D} (h : Enc enc) (hd : ∀ a, (enc a).depth ≤ 29) : Enc fun xs : List α => PyData.tuple (xs.map enc) :=
  ⟨fun a b => by rw [eqv_tup]; exact eqvAll_map h a b, fun a => by
    rw [depth_tup]
    have := depthAll_le (k := 29) (ds := a.map enc) fun d hd' => by
      obtain ⟨x, _, rfl⟩ := List.mem_map.mp hd'
      exact hd x
    omega⟩
theorem intsD_map (n : Nat) : intsD 0 n = (List.range n).map fun (i : Nat) => PyData.int (i : Int) := by
  unfold intsD
  congr 1; funext i
  rw [Int.zero_add]
end RB
end
/-! text REv3 -/
section
set_option Elab.async false
set_option linter.all false
set_option maxRecDepth 100000
set_option maxHeartbeats 4000000
/-! REv3: walks inside what is asked. -/
namespace RB
open PySem PySem.Spec PyProof.Rows L2
theorem nexts_next {ρ : Vn} {T S : Sto} {P : Vn → Sto → Sto → Prop} (h : P ρ T S) : nexts (.next ρ T S) P := ⟨ρ, T, S, .inl rfl, h⟩
section
variable {α : Type} {enc : α → D} {g : TgM} {body u : SM}
theorem for_end (P : Out → Prop) (I : List α → Vn → Sto → Sto → Prop) {xs : List α} {ρ : Vn} {T S : Sto} (h0 : I [] ρ T S) (hs : ∀ pre a post ρ T S, xs = pre ++ a :: post → I pre ρ T S → ∃ ρ1, g (enc a) ρ = some ρ1 ∧ nexts (body ρ1 T S) (I (pre ++ [a])))
    (hk : ∀ ρ T S, I xs ρ T S → P (.next ρ T S)) : P (forD g body (xs.map enc) ρ T S) := by
  obtain ⟨ρ', T', S', e, h⟩ := for_run (g := g) (body := body) (enc := enc) I h0 hs
  rw [e]
  exact hk ρ' T' S' h
end
/-! ### dicts -/
section
variable (ρ : Vn) (T S : Sto)
def dgxO (o : Option (List (Key × D))) (k : Option Key) (T S : Sto) : Res Rv := match o, k with
  | some kvs, some k => ixR (findD kvs k) T S
  | _, _ => .bad
theorem ev_dgetX (a b : Rv) : dgetX a b T S = dgxO (dicR a T S) (keyR b) T S := rfl
theorem dgxO_s (kvs : List (Key × D)) (k : Key) : dgxO (some kvs) (some k) T S = ixR (findD kvs k) T S := rfl
theorem dic_own (n : Nat) : dicR (.own n) T S = obDic T[n]? := rfl
theorem dic_f (kvs : List (Key × D)) : dicR (.frd kvs) T S = some kvs := rfl
theorem obDic_s (kvs : List (Key × D)) : obDic (some (.dic kvs)) = some kvs := rfl
theorem obDic_f (kvs : List (Key × D)) : obDic (some (.frd kvs)) = some kvs := rfl
theorem key_str (x : Str) : keyR (.v (.str x)) = some (.inr x) := rfl
theorem key_int (i : Int) : keyR (.v (.int i)) = some (.inl i) := rfl
def goR (o : Option (List (Key × D))) (k : Option Key) (r : Rv) (T S : Sto) : Res Rv := match o, k, r with
  | some kvs, some k, .v z => .ok (.v ((findD kvs k).getD z)) T S
  | _, _, _ => .bad
theorem goR_s (kvs : List (Key × D)) (k : Key) (z : D) : goR (some kvs) (some k) (.v z) T S = .ok (.v ((findD kvs k).getD z)) T S := rfl
def kGo3 (a b r : Rv) (T S : Sto) : Res Rv := goR (dicR a T S) (keyR b) r T S
theorem kGo3_a (a b r : Rv) : kGo3 a b r T S = goR (dicR a T S) (keyR b) r T S := rfl
def kGo2 (m : EM Rv) (ρ : Vn) (a b : Rv) (T S : Sto) : Res Rv := (m ρ T S).bind (kGo3 a b)
theorem kGo2_a (m : EM Rv) (a b : Rv) : kGo2 m ρ a b T S = (m ρ T S).bind (kGo3 a b) := rfl
def kGo1 (mk m : EM Rv) (ρ : Vn) (a : Rv) (T S : Sto) : Res Rv := if (dicR a T S).isSome = true then (mk ρ T S).bind (kGo2 m ρ a) else .bad
theorem kGo1_a (mk m : EM Rv) (a : Rv) : kGo1 mk m ρ a T S = if (dicR a T S).isSome = true then (mk ρ T S).bind (kGo2 m ρ a) else .bad := rfl
theorem ev_dgetOr (md mk m : EM Rv) : dgetOr md mk m ρ T S = (md ρ T S).bind (kGo1 mk m ρ) := rfl
def dpo1 (n : Nat) (k : Key) (d : D) (ρ : Vn) (T S : Sto) (o : Option Ob) : Out := match o with
  | some (.dic kvs) => if kvs.length < 16777216 then .next ρ (T.set n (.dic (putD kvs k d))) S else .bad
  | _ => .bad
theorem dpo1_s (n : Nat) (k : Key) (d : D) (kvs : List (Key × D)) : dpo1 n k d ρ T S (some (.dic kvs)) = if kvs.length < 16777216 then .next ρ (T.set n (.dic (putD kvs k d))) S else .bad := rfl
def dpoR (a : Rv) (k : Option Key) (o : Option (D × Sto)) (ρ : Vn) (S : Sto) : Out := match a, k, o with
  | .own n, some k, some (d, T') => dpo1 n k d ρ T' S T'[n]?
  | _, _, _ => .bad
theorem dpoR_s (n : Nat) (k : Key) (d : D) : dpoR (.own n) (some k) (some (d, T)) ρ S = dpo1 n k d ρ T S T[n]? := rfl
def kPo3 (r a : Rv) (ρ : Vn) (b : Rv) (T S : Sto) : Out := dpoR a (keyR b) (toD r T) ρ S
theorem kPo3_a (r a b : Rv) : kPo3 r a ρ b T S = dpoR a (keyR b) (toD r T) ρ S := rfl
def kPo2 (mk : EM Rv) (r : Rv) (ρ : Vn) (a : Rv) (T S : Sto) : Out := (mk ρ T S).out ρ (kPo3 r a ρ)
theorem kPo2_a (mk : EM Rv) (r a : Rv) : kPo2 mk r ρ a T S = (mk ρ T S).out ρ (kPo3 r a ρ) := rfl
def kPo1 (md mk : EM Rv) (ρ : Vn) (r : Rv) (T S : Sto) : Out := (md ρ T S).out ρ (kPo2 mk r ρ)
theorem kPo1_a (md mk : EM Rv) (r : Rv) : kPo1 md mk ρ r T S = (md ρ T S).out ρ (kPo2 mk r ρ) := rfl
theorem ev_dputO (md mk m : EM Rv) : dputO md mk m ρ T S = (m ρ T S).out ρ (kPo1 md mk ρ) := rfl
end
/-! ### a dict comprehension over a list that lives -/
section
variable {α : Type} {enc : α → D} {g : TgM} {kx vx : EM Rv} {ρ : Vn} {T S : Sto}
def kDct (g : TgM) (tests : EM Bool) (kx vx : EM Rv) (ρ : Vn) (n : NX) (T S : Sto) : Res Rv := (dctG n.nx g tests kx vx ρ n.fuel 0 [] T S).bind fun kvs T S => .ok (.own T.length) (T ++ [.dit kvs]) S
theorem kDct_a (g : TgM) (tests : EM Bool) (kx vx : EM Rv) (ρ : Vn) (n : NX) (T S : Sto) : kDct g tests kx vx ρ n T S = (dctG n.nx g tests kx vx ρ n.fuel 0 [] T S).bind fun kvs T S => .ok (.own T.length) (T ++ [.dit kvs]) S := rfl
theorem ev_dctL (items : EM NX) (tests : EM Bool) (vs : List Nat) : dctL items g tests kx vx vs ρ T S = (items ρ T S).bind (kDct g tests kx vx (wipeV ρ vs)) := rfl
end
end RB
end
/-! text REv4 -/
section
set_option Elab.async false
set_option linter.all false
set_option maxRecDepth 100000
set_option maxHeartbeats 4000000
/-! REv4: the feed's dict, sums of tuples and lists, sets of tuples, item store. -/
namespace RB
open PySem PySem.Spec PyProof.Rows L2
section
variable (ρ : Vn) (T S : Sto)
def dgrO (o : Option Ob) (x : Str) (T S : Sto) : Res Rv := match o with
  | some (.dic kvs) => ixR (findD kvs (.inr x)) T S
  | _ => .bad
theorem ev_dgetR (n : Nat) (x : Str) : dgetR (.loc n) (.v (.str x)) T S = dgrO S[n]? x T S := rfl
theorem dgrO_s (kvs : List (Key × D)) (x : Str) : dgrO (some (.dic kvs)) x T S = ixR (findD kvs (.inr x)) T S := rfl
def dsO (n : Nat) (x : Str) (o : Option Ob) (q : Option (D × Sto)) (ρ : Vn) (S : Sto) : Out := match o, q with
  | some (.dic kvs), some (d, T') => if kvs.length < 16777216 then .next ρ T' (S.set n (.dic (putD kvs (.inr x) d))) else .bad
  | _, _ => .bad
theorem dsO_s (n : Nat) (x : Str) (kvs : List (Key × D)) (d : D) : dsO n x (some (.dic kvs)) (some (d, T)) ρ S = if kvs.length < 16777216 then .next ρ T (S.set n (.dic (putD kvs (.inr x) d))) else .bad := rfl
def dsR (a b r : Rv) (ρ : Vn) (T S : Sto) : Out := match a, b with
  | .loc n, .v (.str x) => dsO n x S[n]? (toD r T) ρ S
  | _, _ => .bad
theorem dsR_s (n : Nat) (x : Str) (r : Rv) : dsR (.loc n) (.v (.str x)) r ρ T S = dsO n x S[n]? (toD r T) ρ S := rfl
def kDs3 (r a : Rv) (ρ : Vn) (b : Rv) (T S : Sto) : Out := dsR a b r ρ T S
theorem kDs3_a (r a b : Rv) : kDs3 r a ρ b T S = dsR a b r ρ T S := rfl
def kDs2 (mk : EM Rv) (r : Rv) (ρ : Vn) (a : Rv) (T S : Sto) : Out := (mk ρ T S).out ρ (kDs3 r a ρ)
theorem kDs2_a (mk : EM Rv) (r a : Rv) : kDs2 mk r ρ a T S = (mk ρ T S).out ρ (kDs3 r a ρ) := rfl
def kDs1 (md mk : EM Rv) (ρ : Vn) (r : Rv) (T S : Sto) : Out := (md ρ T S).out ρ (kDs2 mk r ρ)
theorem kDs1_a (md mk : EM Rv) (r : Rv) : kDs1 md mk ρ r T S = (md ρ T S).out ρ (kDs2 mk r ρ) := rfl
theorem ev_dputS (md mk m : EM Rv) : dputS md mk m ρ T S = (m ρ T S).out ρ (kDs1 md mk ρ) := by
  unfold dputS
  congr 1
theorem o_add_tup (xs ys : List D) : o_add (.v (.tuple xs)) (.v (.tuple ys)) T S = if xs.length + ys.length ≤ 16777216 then .ok (.v (.tuple (xs ++ ys))) T S else .bad := rfl
theorem o_add_lst (xs ys : List D) : o_add (.v (.list xs)) (.v (.list ys)) T S = if xs.length + ys.length ≤ 16777216 then .ok (.v (.list (xs ++ ys))) T S else .bad := rfl
def ssuO (o : Option (List (List Str))) (T S : Sto) : Res Rv := match o with
  | some ks => if ks.length < 63 then .ok (.v (.list ((sortU (metU ks)).map tupD))) T S else .bad
  | none => .bad
def ssuR (o : Option D) (T S : Sto) : Res Rv := match o with
  | some (.list xs) => ssuO (tupsK xs) T S
  | _ => .bad
def kSsu (r : Rv) (T S : Sto) : Res Rv := ssuR (look r T S) T S
theorem kSsu_a (r : Rv) : kSsu r T S = ssuR (look r T S) T S := rfl
theorem ev_ssu (m : EM Rv) : sortSetUM m ρ T S = (m ρ T S).bind kSsu := rfl
theorem ssuR_l (xs : List D) : ssuR (some (.list xs)) T S = ssuO (tupsK xs) T S := rfl
theorem ssuO_s (ks : List (List Str)) : ssuO (some ks) T S = if ks.length < 63 then .ok (.v (.list ((sortU (metU ks)).map tupD))) T S else .bad := rfl
def lpO (n : Nat) (i : Int) (d : D) (ρ : Vn) (T S : Sto) (o : Option Ob) : Out := match o with
  | some (.lst xs) => (match ixN xs.length i with
      | some j => .next ρ (T.set n (.lst (xs.set j d))) S
      | none => .bad)
  | _ => .bad
def lpR (a b : Rv) (q : Option (D × Sto)) (ρ : Vn) (S : Sto) : Out := match a, b, q with
  | .own n, .v (.int i), some (d, T') => lpO n i d ρ T' S T'[n]?
  | _, _, _ => .bad
theorem lpR_s (n : Nat) (i : Int) (d : D) : lpR (.own n) (.v (.int i)) (some (d, T)) ρ S = lpO n i d ρ T S T[n]? := rfl
def kLp3 (r a : Rv) (ρ : Vn) (b : Rv) (T S : Sto) : Out := lpR a b (toD r T) ρ S
theorem kLp3_a (r a b : Rv) : kLp3 r a ρ b T S = lpR a b (toD r T) ρ S := rfl
def kLp2 (mk : EM Rv) (r : Rv) (ρ : Vn) (a : Rv) (T S : Sto) : Out := (mk ρ T S).out ρ (kLp3 r a ρ)
theorem kLp2_a (mk : EM Rv) (r a : Rv) : kLp2 mk r ρ a T S = (mk ρ T S).out ρ (kLp3 r a ρ) := rfl
def kLp1 (md mk : EM Rv) (ρ : Vn) (r : Rv) (T S : Sto) : Out := (md ρ T S).out ρ (kLp2 mk r ρ)
theorem kLp1_a (md mk : EM Rv) (r : Rv) : kLp1 md mk ρ r T S = (md ρ T S).out ρ (kLp2 mk r ρ) := rfl
theorem ev_lputO (md mk m : EM Rv) : lputO md mk m ρ T S = (m ρ T S).out ρ (kLp1 md mk ρ) := by
  unfold lputO
  congr 1
/-! ### one statement, then the rest -/
def nx1 (o : Out) (P : Vn → Sto → Sto → Prop) : Prop := ∃ ρ T S, o = .next ρ T S ∧ P ρ T S
theorem nx1_next {ρ : Vn} {T S : Sto} {P : Vn → Sto → Sto → Prop} (h : P ρ T S) : nx1 (.next ρ T S) P := ⟨ρ, T, S, rfl, h⟩
theorem seq_mid (P : Out → Prop) (I : Vn → Sto → Sto → Prop) {a b : SM} {ρ : Vn} {T S : Sto} (h : nx1 (a ρ T S) I) (hk : ∀ ρ T S, I ρ T S → P (b ρ T S)) : P (seqS a b ρ T S) := by
  obtain ⟨ρ', T', S', e, h⟩ := h
  rw [ev_seq, e]
  exact hk ρ' T' S' h
/-! ### the feed is made -/
def pcD (x : Str) (d : D) (kvs : List (Str × D)) (T S : Sto) : Res (List (Str × D)) := .ok ((x, d) :: kvs) T S
theorem pcD_a (x : Str) (d : D) (kvs : List (Str × D)) : pcD x d kvs T S = .ok ((x, d) :: kvs) T S := rfl
def pcR (r : PM) (ρ : Vn) (k : Rv) (q : Option (D × Sto)) (S : Sto) : Res (List (Str × D)) := match k, q with
  | .v (.str x), some (d, T') => (r ρ T' S).bind (pcD x d)
  | _, _ => .bad
theorem pcR_s (r : PM) (x : Str) (d : D) : pcR r ρ (.v (.str x)) (some (d, T)) S = (r ρ T S).bind (pcD x d) := rfl
def kPc2 (r : PM) (ρ : Vn) (k v : Rv) (T S : Sto) : Res (List (Str × D)) := pcR r ρ k (toD v T) S
theorem kPc2_a (r : PM) (k v : Rv) : kPc2 r ρ k v T S = pcR r ρ k (toD v T) S := rfl
def kPc1 (mv : EM Rv) (r : PM) (ρ : Vn) (k : Rv) (T S : Sto) : Res (List (Str × D)) := (mv ρ T S).bind (kPc2 r ρ k)
theorem kPc1_a (mv : EM Rv) (r : PM) (k : Rv) : kPc1 mv r ρ k T S = (mv ρ T S).bind (kPc2 r ρ k) := rfl
theorem ev_pcons (mk mv : EM Rv) (r : PM) : pcons mk mv r ρ T S = (mk ρ T S).bind (kPc1 mv r ρ) := by
  unfold pcons
  congr 1
theorem ev_pnil : pnil ρ T S = .ok [] T S := rfl
def kDisp (kvs : List (Str × D)) (T S : Sto) : Res Rv := if kvs.length ≤ 15 then .ok (.loc S.length) T (S ++ [.dic (kvs.foldl (fun acc kv => putD acc (.inr kv.1) kv.2) [])]) else .bad
theorem kDisp_a (kvs : List (Str × D)) : kDisp kvs T S = if kvs.length ≤ 15 then .ok (.loc S.length) T (S ++ [.dic (kvs.foldl (fun acc kv => putD acc (.inr kv.1) kv.2) [])]) else .bad := rfl
theorem ev_disp (m : PM) : dispM m ρ T S = (m ρ T S).bind kDisp := rfl
end
end RB
end
/-! text REv5 -/
section
set_option Elab.async false
set_option linter.all false
set_option maxRecDepth 100000
set_option maxHeartbeats 4000000
/-! REv5: two fors, dicts over data, sorted sets of texts, sorted tuples that part. -/
namespace RB
open PySem PySem.Spec PyProof.Rows L2
end RB
end
/-! text REv6 -/
section
set_option Elab.async false
set_option linter.all false
set_option maxRecDepth 100000
set_option maxHeartbeats 4000000
namespace RB
open PySem PySem.Spec PyProof.Rows L2
theorem Enc.lst {α : Type} {enc : α → D} (h : Enc enc) (hd : ∀ a, (enc a).depth ≤ 29) : Enc fun xs : List α => PyData.list (xs.map enc) :=
  ⟨fun a b => by rw [eqv_lst]; exact eqvAll_map h a b, fun a => by
    rw [depth_lst]
    have := depthAll_le (k := 29) (ds := a.map enc) fun d hd' => by
      obtain ⟨x, _, rfl⟩ := List.mem_map.mp hd'
      exact hd x
    omega⟩
end RB
end
/-! text RTset11 -/
section
set_option Elab.async false
set_option linter.all false
set_option maxRecDepth 100000
set_option maxHeartbeats 4000000
/-! RTset11: sorted(set(a tuple of tuples of texts)). -/
namespace RB
open PySem PySem.Spec PyProof.Rows L2
end RB
end
/-! text REv7 -/
section
set_option Elab.async false
set_option linter.all false
set_option maxRecDepth 100000
set_option maxHeartbeats 4000000
namespace RB
open PySem PySem.Spec PyProof.Rows L2
end RB
end
/-! text RDl -/
section
set_option Elab.async false
set_option linter.all false
set_option maxRecDepth 100000
set_option maxHeartbeats 4000000
/-! RDl: dicts that are lent, locked, returned; walks of a dict. -/
namespace RB
open PySem PySem.Spec PyProof.Rows L2
/-! ### a dict that changes no more from here on -/
def frzM (m : EM Rv) : EM Rv := fun ρ T S => (m ρ T S).bind fun r T S => match toA r T with
  | some (r', T') => .ok r' T' S
  | none => .bad
/-! ### (d, e), d a dict that changes no more -/
def prdM (ma mb : EM Rv) : EM Rv := fun ρ T S => (ma ρ T S).bind fun r T S => (mb ρ T S).bind fun z T S => match toA r T with
  | some (.frd kvs, T') => (match toD z T' with
    | some (d, T2) => .ok (.prd kvs d) T2 S
    | none => .bad)
  | _ => .bad
/-- a, b = e, e such a tuple -/
def asgP (i j : Nat) (m : EM Rv) : SM := fun ρ T S => (m ρ T S).out ρ fun r T S => match r with
  | .prd kvs d => .next ((ρ.set i (some (.frd kvs))).set j (some (.v d))) T S
  | _ => .bad
/-! ### for k in d, d locked -/
def dkeysM (m : EM Rv) : EM (List D) := fun ρ T S => (m ρ T S).bind fun r T S => match r with
  | .frk kvs => .ok (kvs.map fun kv => keyD kv.1) T S
  | _ => .bad
/-! ### a call, one dict of the caller's own locked as long -/
end RB
end
/-! text RDl2 -/
section
set_option Elab.async false
set_option linter.all false
set_option maxRecDepth 100000
set_option maxHeartbeats 4000000
/-! RDl2: a dict of one's own that is lent and may change; d[key] = e of such a one. -/
namespace RB
open PySem PySem.Spec PyProof.Rows L2
/-- d[key] = e of any dict that may change -/
def dputX (md mk m : EM Rv) : SM := fun ρ T S => (m ρ T S).out ρ fun r T S => (md ρ T S).out ρ fun a T S => (mk ρ T S).out ρ fun b T S => match a, keyR b, toD r T with
  | .own n, some k, some (d, T') => (match T'[n]? with
    | some (.dic kvs) => if kvs.length < 16777216 then .next ρ (T'.set n (.dic (putD kvs k d))) S else .bad
    | _ => .bad)
  | .loc n, some k, some (d, T') => (match S[n]? with
    | some (.dic kvs) => if kvs.length < 16777216 then .next ρ T' (S.set n (.dic (putD kvs k d))) else .bad
    | _ => .bad)
  | _, _, _ => .bad
end RB
end
/-! text RMin -/
section
set_option Elab.async false
set_option linter.all false
set_option maxRecDepth 100000
set_option maxHeartbeats 4000000
/-! RMin: min of a list of ints, list * int, list[::-1]. -/
namespace RB
open PySem PySem.Spec PyProof.Rows L2
/-- the least of a list of ints -/
def minI : List Int → Int
  | [] => 0
  | [a] => a
  | a :: b :: r => min a (minI (b :: r))
def c_min (rs : List Rv) (T S : Sto) : Res Rv := match rs with
  | [r] => (match look r T S with
    | some (.list xs) => (match intsOf xs with
      | some (n :: ns) => .ok (.v (.int (minI (n :: ns)))) T S
      | _ => .bad)
    | _ => .bad)
  | _ => .bad
def o_rep (a b : Rv) (T S : Sto) : Res Rv := match a, b with
  | .v (.list xs), .v (.int k) => if 0 ≤ k ∧ k ≤ 1000 ∧ xs.length ≤ 1000 then .ok (.v (.list (List.replicate k.toNat xs).flatten)) T S else .bad
  | _, _ => .bad
def revLM (m : EM Rv) : EM Rv := fun ρ T S => (m ρ T S).bind fun r T S => match look r T S with
  | some (.list xs) => .ok (.v (.list xs.reverse)) T S
  | _ => .bad
end RB
end
/-! text RSortL -/
section
set_option Elab.async false
set_option linter.all false
set_option maxRecDepth 100000
set_option maxHeartbeats 4000000
/-! RSortL: sorted(xs, key=lambda x: (len(x), x)), xs a list of tuples of texts. -/
namespace RB
open PySem PySem.Spec PyProof.Rows L2
/-- the key of a tuple -/
def keyL : D → D
  | .tuple xs => .tuple [.int (xs.length : Int), .tuple xs]
  | d => d
def isStrD : D → Bool
  | .str _ => true
  | _ => false
def isTS : D → Bool
  | .tuple xs => xs.all isStrD && decide (xs.length ≤ 1000)
  | _ => false
def sortLOk (ds : List D) : Bool := ds.all isTS && decide (ds.length ≤ 16777216)
def leL (x y : D) : Bool := leD (keyL x) (keyL y)
def sortL (ds : List D) : List D := ds.mergeSort leL
def sortLM (m : EM Rv) : EM Rv := fun ρ T S => (m ρ T S).bind fun r T S => match look r T S with
  | some (.list xs) => if sortLOk xs = true then .ok (.v (.list (sortL xs))) T S else .bad
  | _ => .bad
end RB
end
/-! text RKw -/
section
set_option Elab.async false
set_option linter.all false
set_option maxRecDepth 100000
set_option maxHeartbeats 4000000
/-! RKw: plain parameters that are given by their names, in any order; what a lambda of one name has. -/
namespace RB
open PySem PySem.Spec PyProof.Rows L2
def pick {α : Type} (π : List Nat) (l : List α) : List α := π.filterMap fun i => l[i]?
theorem vals_get : ∀ {xs : List V} {us : List Value} (i : Nat), Vals xs us → (xs[i]? = none ∧ us[i]? = none) ∨ ∃ x u, xs[i]? = some x ∧ us[i]? = some u ∧ RelV x u
  | _, _, _, .nil => .inl ⟨by simp, by simp⟩
  | _, _, 0, .cons h _ => .inr ⟨_, _, rfl, rfl, h⟩
  | _, _, i + 1, .cons _ t => by simpa using vals_get i t
theorem vals_pick {xs : List V} {us : List Value} (h : Vals xs us) : ∀ π : List Nat, Vals (pick π xs) (pick π us)
  | [] => .nil
  | i :: π => by
    have ih := vals_pick h π
    unfold pick at ih ⊢
    rcases vals_get i h with ⟨e1, e2⟩ | ⟨x, u, e1, e2, r⟩
    · rw [List.filterMap_cons_none e1, List.filterMap_cons_none e2]; exact ih
    · rw [List.filterMap_cons_some e1, List.filterMap_cons_some e2]; exact .cons r ih
theorem reprs_get {K : PySem.W.Frag} [WC K] {G : Hp} {L M : List Addr} : ∀ {xs : List V} {rs : List Rv} (i : Nat), RepRs K G L M xs rs → (xs[i]? = none ∧ rs[i]? = none) ∨ ∃ x r, xs[i]? = some x ∧ rs[i]? = some r ∧ RepR K G L M x r
  | _, _, _, .nil => .inl ⟨by simp, by simp⟩
  | _, _, 0, .cons h _ => .inr ⟨_, _, rfl, rfl, h⟩
  | _, _, i + 1, .cons _ t => by simpa using reprs_get i t
theorem reprs_pick {K : PySem.W.Frag} [WC K] {G : Hp} {L M : List Addr} {xs : List V} {rs : List Rv} (h : RepRs K G L M xs rs) : ∀ π : List Nat, RepRs K G L M (pick π xs) (pick π rs)
  | [] => .nil
  | i :: π => by
    have ih := reprs_pick h π
    unfold pick at ih ⊢
    rcases reprs_get i h with ⟨e1, e2⟩ | ⟨x, u, e1, e2, r⟩
    · rw [List.filterMap_cons_none e1, List.filterMap_cons_none e2]; exact ih
    · rw [List.filterMap_cons_some e1, List.filterMap_cons_some e2]; exact .cons r ih
theorem pick_len {α : Type} {l : List α} : ∀ {π : List Nat}, (∀ i ∈ π, i < l.length) → (pick π l).length = π.length
  | [], _ => rfl
  | i :: π, h => by
    have ih := pick_len (π := π) fun j hj => h j (List.mem_cons_of_mem _ hj)
    unfold pick at ih ⊢
    rw [List.filterMap_cons_some (List.getElem?_eq_getElem (h i List.mem_cons_self)), List.length_cons, List.length_cons, ih]
/-- how a def is called by names: so many plain ones, then these names; where each parameter's value stands -/
abbrev KSp := Nat × List Str × List Nat
def AllK (K : PySem.W.Frag) (fd : FuncData) (ps : List Str) : List KSp → Prop
  | [] => True
  | s :: r => (∃ g, KBn K fd ps s.1 s.2.1 g (fun vs zs => pick s.2.2 (vs ++ zs))) ∧ AllK K fd ps r
theorem AllK.at {K : PySem.W.Frag} {fd : FuncData} {ps : List Str} : ∀ {l : List KSp} {i : Nat} {s : KSp}, AllK K fd ps l → l[i]? = some s → ∃ g, KBn K fd ps s.1 s.2.1 g (fun vs zs => pick s.2.2 (vs ++ zs))
  | [], _, _, _, e => by simp at e
  | _ :: _, 0, _, h, e => by simp at e; subst e; exact h.1
  | _ :: _, i + 1, _, h, e => AllK.at (i := i) h.2 (by simpa using e)
def DfnV (P : Program) (w : World) (K : PySem.W.Frag) [WC K] (mg : Str → Option Value) (base : Heap) (ct : Str → Option Addr) (x : Str) (k n : Nat) (sp : List KSp) (fm : FM) : Prop :=
  ∃ f fd ps, FnOk P w K mg base (L2.CX P w) k f fd ps (spF ct K n fm) ∧ PySem.W.keepIn K (.ref f) = true ∧ Binds K fd ps [] ∧ mg x = some (.ref f) ∧ AllK K fd ps sp
theorem DfnV.all {P : Program} {w : World} {K : PySem.W.Frag} [WC K] {mg : Str → Option Value} {base : Heap} {ct : Str → Option Addr} {x : Str} {k n : Nat} {sp : List KSp} {fm : FM} (d : DfnV P w K mg base ct x k n sp fm) : Dfn P w K mg base ct x k n fm := by
  obtain ⟨f, fd, ps, F, kp, hb, hm, _⟩ := d
  exact ⟨f, fd, ps, F, kp, hb, hm⟩
def permA (π : List Nat) (ms : EM (List Rv)) : EM (List Rv) := fun ρ T S => (ms ρ T S).bind fun rs T S => .ok (pick π rs) T S
end RB
end
/-! text RLast -/
section
set_option Elab.async false
set_option linter.all false
set_option maxRecDepth 100000
set_option maxHeartbeats 4000000
/-! RLast: sorted of a list of at most one thing, tuple * int. -/
namespace RB
open PySem PySem.Spec PyProof.Rows L2
end RB
end
/-! text RIxp -/
section
set_option Elab.async false
set_option linter.all false
set_option maxRecDepth 100000
set_option maxHeartbeats 4000000
/-! RIxp: the second part of a pair that a call gave back. -/
namespace RB
open PySem PySem.Spec PyProof.Rows L2
end RB
end
/-! text RTop3 -/
section
set_option Elab.async false
set_option linter.all false
set_option maxRecDepth 100000
set_option maxHeartbeats 4000000
/-! RTop3: as RTop2, with written dicts (texts to ints) of the module. -/
namespace RB
open PySem PySem.Spec PyProof.Rows L2
end RB
end
/-! text RGd -/
section
set_option Elab.async false
set_option linter.all false
set_option maxRecDepth 100000
set_option maxHeartbeats 4000000
/-! RGd: written dicts (texts to ints) of the module: x in D, D[x]. -/
namespace RB
open PySem PySem.Spec PyProof.Rows L2
/-! ### what the head tells of it -/
end RB
end
/-! text RHead6 -/
section
set_option Elab.async false
set_option linter.all false
set_option maxRecDepth 100000
set_option maxHeartbeats 4000000
/-! RHead6: the head, with classes of the text and written dicts. -/
namespace RB
open PySem PySem.Spec PyProof.Rows L2
end RB
end
/-! text RTryX -/
section
set_option Elab.async false
set_option linter.all false
set_option maxRecDepth 100000
set_option maxHeartbeats 4000000
/-! RTryX: try: .. except C as e: return x, where x reads the two fields of e. -/
namespace RB
open PySem PySem.Spec PyProof.Rows L2
def XI (K : PySem.W.Frag) [WC K] (i : Nat) (a : Addr) (cls : Value) (d : Option Addr) (C : Addr) (f1 f2 : Str) (d1 d2 : D) (G H : Hp) (σ : L2.St) : Prop :=
  σ[i]? = some (some (.ref a)) ∧ cls = .ref C ∧ ∃ dd fs v1 v2, d = some dd ∧ H dd = some (.xd fs) ∧ fs.lookup f1 = some v1 ∧ fs.lookup f2 = some v2 ∧ Rep K G v1 d1 ∧ Rep K G v2 d2
section
variable {K : PySem.W.Frag} [WC K] {G H G' H' : Hp} {L M L' M' : List Addr} {T S T' S' : Sto}
theorem rob_xd {a : Addr} {o : Ob} {fs : List (Str × V)} (h : ROb K L M G H a o) (e : H a = some (.xd fs)) : False := by
  cases o with
  | lst ds => obtain ⟨_, h, _⟩ := h; rw [e] at h; cases h
  | dic kvs => obtain ⟨_, h, _⟩ := h; rw [e] at h; cases h
  | frz ds => obtain ⟨_, h, _⟩ := h; rw [e] at h; cases h
  | frd kvs => obtain ⟨_, h, _⟩ := h; rw [e] at h; cases h
  | lkd kvs => obtain ⟨_, _, h, _⟩ := h; rw [e] at h; cases h
  | dit kvs => obtain ⟨_, h, _⟩ := h; rw [e] at h; cases h
  | fdt kvs => obtain ⟨_, h, _⟩ := h; rw [e] at h; cases h
  | dnt kvs => obtain ⟨_, h, _⟩ := h; rw [e] at h; cases h
  | ins cls fs => obtain ⟨_, _, h, _⟩ := h; rw [e] at h; cases h
  | rls rs => obtain ⟨_, h, _⟩ := h; rw [e] at h; cases h
  | rdc kvs => obtain ⟨_, h, _⟩ := h; rw [e] at h; cases h
theorem xd_keep (f : Fits K G H L M T S) (x : Ext G H L M G' H' L' M') (f' : Fits K G' H' L' M' T' S') {dd : Addr} {fs : List (Str × V)} (h : H dd = some (.xd fs)) : H' dd = some (.xd fs) := by
  refine x.keep dd _ h (fun ps z => by cases z) (fun hm => ?_) (fun hm => ?_)
  · obtain ⟨n, hn, e⟩ := List.getElem_of_mem hm
    have hs : n < S.length := by rw [← f.lenL]; exact hn
    exact rob_xd (f.obL n dd S[n] (by rw [List.getElem?_eq_getElem hn, e]) (List.getElem?_eq_getElem hs)) h
  · obtain ⟨n, hn, e⟩ := List.getElem_of_mem hm
    have hs : n < T.length := by rw [← f.lenM]; exact hn
    exact rob_xd (f.obM n dd T[n] (by rw [List.getElem?_eq_getElem hn, e]) (List.getElem?_eq_getElem hs)) h
theorem XI.mono {i : Nat} {a : Addr} {cls : Value} {d : Option Addr} {C : Addr} {f1 f2 : Str} {d1 d2 : D} {σ : L2.St} (h : XI K i a cls d C f1 f2 d1 d2 G H σ) (f : Fits K G H L M T S) (x : Ext G H L M G' H' L' M') (f' : Fits K G' H' L' M' T' S') : XI K i a cls d C f1 f2 d1 d2 G' H' σ := by
  obtain ⟨h1, h2, dd, fs, v1, v2, h3, h4, h5, h6, h7, h8⟩ := h
  exact ⟨h1, h2, dd, fs, v1, v2, h3, xd_keep f x f' h4, h5, h6, h7.mono x.gm, h8.mono x.gm⟩
end
section
variable (ct : Str → Option Addr) (X : Cx) [WC X.K] (W : WX) (i : Nat) (a : Addr) (cls : Value) (d : Option Addr) (C : Addr) (f1 f2 : Str)
def SEx (e : Expr) (m : D → D → EM Rv) : Prop :=
  ∃ t, PE X e t ∧ ∀ (d1 d2 : D) (ρ : Vn) (T S : Sto) (G H : Hp) (L M : List Addr) (σ : L2.St) (Q : VK), XI X.K i a cls d C f1 f2 d1 d2 G H σ → ρ.length = σ.length → Fits X.K G H L M T S → Slots X.K G L M ρ σ → Sat ct X.K W G H L M σ (RepR X.K) Q (m d1 d2 ρ T S) → t σ H Q
def SAx (es : List Expr) (m : D → D → EM (List Rv)) : Prop :=
  ∃ t, PA X es t ∧ ∀ (d1 d2 : D) (ρ : Vn) (T S : Sto) (G H : Hp) (L M : List Addr) (σ : L2.St) (Q : List V → Hp → Prop), XI X.K i a cls d C f1 f2 d1 d2 G H σ → ρ.length = σ.length → Fits X.K G H L M T S → Slots X.K G L M ρ σ → Sat ct X.K W G H L M σ (RepRs X.K) Q (m d1 d2 ρ T S) → t σ H Q
end
section
variable {ct : Str → Option Addr} {X : Cx} [WC X.K] {W : WX} {i : Nat} {a : Addr} {cls : Value} {d : Option Addr} {C : Addr} {f1 f2 : Str} {e e1 e2 b : Expr} {es rest : List Expr} {pos : Pos} {ma mb : D → D → EM Rv} {ms : D → D → EM (List Rv)}
theorem sex_of {m : EM Rv} (h : SE ct X W e m) : SEx ct X W i a cls d C f1 f2 e (fun _ _ => m) := by
  obtain ⟨t, p, q⟩ := h
  exact ⟨t, p, fun _ _ ρ T S G H L M σ Q _ hl f sl hs => q ρ T S G H L M σ Q hl f sl hs⟩
theorem sax_nil : SAx ct X W i a cls d C f1 f2 [] (fun _ _ => nilA) := by
  obtain ⟨t, p, q⟩ := (sa_nil : SA ct X W [] nilA)
  exact ⟨t, p, fun _ _ ρ T S G H L M σ Q _ hl f sl hs => q ρ T S G H L M σ Q hl f sl hs⟩
theorem sax_cons (h : SEx ct X W i a cls d C f1 f2 e ma) (hr : SAx ct X W i a cls d C f1 f2 es ms) (hs : starEach (e :: es) X.env = (false, eval e X.env) :: starEach es X.env) : SAx ct X W i a cls d C f1 f2 (e :: es) (fun d1 d2 => consA (ma d1 d2) (ms d1 d2)) := by
  obtain ⟨t, p, q⟩ := h
  obtain ⟨t2, p2, q2⟩ := hr
  refine ⟨tCons t t2, pa_cons p p2 hs, fun d1 d2 ρ T S G H L M σ Q xi hl f sl h => ?_⟩
  refine q d1 d2 ρ T S G H L M σ _ xi hl f sl (Sat.bind h fun r T1 S1 G1 H1 L1 M1 x e1 f1 r1 h1 => ?_)
  refine q2 d1 d2 ρ T1 S1 G1 H1 L1 M1 σ _ (xi.mono f e1 f1) hl f1 (sl.mono e1) (Sat.bind h1 fun rs T2 S2 G2 H2 L2 M2 xs e2 f2 r2 h2 => ?_)
  exact h2 G2 H2 L2 M2 (x :: xs) (Ext.refl _ _ _ _) f2 (.cons (r1.mono e2) r2)
theorem sex_tup {j} (h : SAx ct X W i a cls d C f1 f2 es ms) : SEx ct X W i a cls d C f1 f2 (.Tuple es j pos) (fun d1 d2 => tupM (ms d1 d2)) := by
  obtain ⟨t, p, q⟩ := h
  refine ⟨tTup t, pe_tup p, fun d1 d2 ρ T S G H L M σ Q xi hl f sl h => ?_⟩
  refine q d1 d2 ρ T S G H L M σ _ xi hl f sl (Sat.bind h fun rs T1 S1 G1 H1 L1 M1 xs e1 f1 r1 h1 => ?_)
  split at h1
  · rename_i ds T' e
    split at h1
    · rename_i hz
      obtain ⟨G2, e2, f2, r2⟩ := toDs_ok f1 r1 e
      exact ⟨by rw [r2.length]; exact line_le hz, fun p hp => sat_tup f2 (Sat.pre e2 h1) r2 hp⟩
    · exact (show False from h1).elim
  · exact (show False from h1).elim
end
section
variable {ct : Str → Option Addr} {X : Cx} [WC X.K] {W : WX} {i : Nat} {a : Addr} {cls : Value} {d : Option Addr} {C : Addr} {f1 f2 y : Str} {pos p : Pos} {oe : Obj} {pn : List (Addr × Obj)}
theorem sex_f1 (T : XfC X.K C) (hno : PySem.W.findIn X.K (.ref C) f1 = some none) (hz : Zc cls d oe) (hf : ∃ vs, oe.data = .fields vs) (hN : X.N[i]? = some y) (hv : X.env.scope.names.lookup y = some .local) (hed : (y == ("__debug__" : Str)) = false) (hec : (y == ("__classdict__" : Str)) = false)
    (hb : attributeBase (.Name y p) f1 X.env (eval (.Name y p) X.env) = eval (.Name y p) X.env) : SEx ct (X.suite a ((a, oe) :: pn)) W i a cls d C f1 f2 (.Attribute (.Name y p) f1 pos) (fun d1 _ => cst d1) := by
  refine ⟨_, pe_xf T hno hz hf (pe_var (i := i) hN (.inl hv) hed hec) hb, fun d1 d2 ρ T0 S G H L M σ Q xi hl f sl h => ?_⟩
  obtain ⟨h1, h2, dd, fs, v1, v2, h3, h4, h5, h6, h7, h8⟩ := xi
  exact ⟨.ref a, h1, rfl, h2, dd, fs, v1, h3, h4, h5, h G H L M v1 (Ext.refl _ _ _ _) f h7⟩
theorem sex_f2 (T : XfC X.K C) (hno : PySem.W.findIn X.K (.ref C) f2 = some none) (hz : Zc cls d oe) (hf : ∃ vs, oe.data = .fields vs) (hN : X.N[i]? = some y) (hv : X.env.scope.names.lookup y = some .local) (hed : (y == ("__debug__" : Str)) = false) (hec : (y == ("__classdict__" : Str)) = false)
    (hb : attributeBase (.Name y p) f2 X.env (eval (.Name y p) X.env) = eval (.Name y p) X.env) : SEx ct (X.suite a ((a, oe) :: pn)) W i a cls d C f1 f2 (.Attribute (.Name y p) f2 pos) (fun _ d2 => cst d2) := by
  refine ⟨_, pe_xf T hno hz hf (pe_var (i := i) hN (.inl hv) hed hec) hb, fun d1 d2 ρ T0 S G H L M σ Q xi hl f sl h => ?_⟩
  obtain ⟨h1, h2, dd, fs, v1, v2, h3, h4, h5, h6, h7, h8⟩ := xi
  exact ⟨.ref a, h1, rfl, h2, dd, fs, v2, h3, h4, h6, h G H L M v2 (Ext.refl _ _ _ _) f h8⟩
end
/-! ### the statement -/
end RB
end
/-! text RRngD -/
section
set_option Elab.async false
set_option linter.all false
set_option maxRecDepth 100000
set_option maxHeartbeats 4000000
/-! RRngD: range(a, b, -1). -/
namespace RB
open PySem PySem.Spec PyProof.Rows L2
end RB
end
/-! text RIdx -/
section
set_option Elab.async false
set_option linter.all false
set_option maxRecDepth 100000
set_option maxHeartbeats 4000000
/-! RIdx: min(i, j); xs.index(x). -/
namespace RB
open PySem PySem.Spec PyProof.Rows L2
end RB
end
/-! text RMax2 -/
section
set_option Elab.async false
set_option linter.all false
set_option maxRecDepth 100000
set_option maxHeartbeats 4000000
/-! RMax2: max(i, j). -/
namespace RB
open PySem PySem.Spec PyProof.Rows L2
end RB
end
/-! text RIntB -/
section
set_option Elab.async false
set_option linter.all false
set_option maxRecDepth 100000
set_option maxHeartbeats 4000000
/-! RIntB: int(b) of a truth value. -/
namespace RB
open PySem PySem.Spec PyProof.Rows L2
end RB
end
/-! text RDisp1 -/
section
set_option Elab.async false
set_option linter.all false
set_option maxRecDepth 100000
set_option maxHeartbeats 4000000
/-! RDisp1: {k: v}, one int key; the dict is the frame's own. -/
namespace RB
open PySem PySem.Spec PyProof.Rows L2
end RB
end
/-! text REv8 -/
section
set_option Elab.async false
set_option linter.all false
set_option maxRecDepth 100000
set_option maxHeartbeats 4000000
/-! REv8: equations for dicts that are lent, locked, returned; min, sum, list * int, list[::-1], sorted with a key, calls by names. -/
namespace RB
open PySem PySem.Spec PyProof.Rows L2
section
variable (ρ : Vn) (T S : Sto)
def frzR (o : Option (Rv × Sto)) (S : Sto) : Res Rv := match o with
  | some (r', T') => .ok r' T' S
  | none => .bad
theorem frzR_s (r : Rv) : frzR (some (r, T)) S = .ok r T S := rfl
def kFrz (r : Rv) (T S : Sto) : Res Rv := frzR (toA r T) S
theorem kFrz_a (r : Rv) : kFrz r T S = frzR (toA r T) S := rfl
theorem ev_frz (m : EM Rv) : frzM m ρ T S = (m ρ T S).bind kFrz := rfl
def prdR2 (kvs : List (Key × D)) (o : Option (D × Sto)) (S : Sto) : Res Rv := match o with
  | some (d, T2) => .ok (.prd kvs d) T2 S
  | none => .bad
theorem prdR2_s (kvs : List (Key × D)) (d : D) : prdR2 kvs (some (d, T)) S = .ok (.prd kvs d) T S := rfl
def prdR1 (o : Option (Rv × Sto)) (z : Rv) (S : Sto) : Res Rv := match o with
  | some (.frd kvs, T') => prdR2 kvs (toD z T') S
  | _ => .bad
theorem prdR1_s (kvs : List (Key × D)) (z : Rv) : prdR1 (some (.frd kvs, T)) z S = prdR2 kvs (toD z T) S := rfl
def kPr2 (r z : Rv) (T S : Sto) : Res Rv := prdR1 (toA r T) z S
theorem kPr2_a (r z : Rv) : kPr2 r z T S = prdR1 (toA r T) z S := rfl
def kPr1 (mb : EM Rv) (ρ : Vn) (r : Rv) (T S : Sto) : Res Rv := (mb ρ T S).bind (kPr2 r)
theorem kPr1_a (mb : EM Rv) (r : Rv) : kPr1 mb ρ r T S = (mb ρ T S).bind (kPr2 r) := rfl
theorem ev_prd (ma mb : EM Rv) : prdM ma mb ρ T S = (ma ρ T S).bind (kPr1 mb ρ) := by
  unfold prdM
  congr 1
def kAsP (i j : Nat) (ρ : Vn) (r : Rv) (T S : Sto) : Out := match r with
  | .prd kvs d => .next ((ρ.set i (some (.frd kvs))).set j (some (.v d))) T S
  | _ => .bad
theorem kAsP_a (i j : Nat) (kvs : List (Key × D)) (d : D) : kAsP i j ρ (.prd kvs d) T S = .next ((ρ.set i (some (.frd kvs))).set j (some (.v d))) T S := rfl
theorem ev_asgP (i j : Nat) (m : EM Rv) : asgP i j m ρ T S = (m ρ T S).out ρ (kAsP i j ρ) := by
  unfold asgP
  congr 1
def kDk (r : Rv) (T S : Sto) : Res (List D) := match r with
  | .frk kvs => .ok (kvs.map fun kv => keyD kv.1) T S
  | _ => .bad
theorem kDk_a (kvs : List (Key × D)) : kDk (.frk kvs) T S = .ok (kvs.map fun kv => keyD kv.1) T S := rfl
theorem ev_dkeys (m : EM Rv) : dkeysM m ρ T S = (m ρ T S).bind kDk := rfl
theorem dic_k (kvs : List (Key × D)) : dicR (.frk kvs) T S = some kvs := rfl
theorem dic_loc (n : Nat) : dicR (.loc n) T S = obDic S[n]? := rfl
theorem toA_frk (kvs : List (Key × D)) : toA (.frk kvs) T = some (.frk kvs, T) := rfl
theorem retR_frd (kvs : List (Key × D)) : retR (.frd kvs) T S = .ok (.frd kvs) S := rfl
theorem retR_prd (kvs : List (Key × D)) (d : D) : retR (.prd kvs d) T S = .ok (.prd kvs d) S := rfl
/-! d[key] = e -/
def dpx1 (n : Nat) (k : Key) (d : D) (ρ : Vn) (T S : Sto) (o : Option Ob) : Out := match o with
  | some (.dic kvs) => if kvs.length < 16777216 then .next ρ (T.set n (.dic (putD kvs k d))) S else .bad
  | _ => .bad
theorem dpx1_s (n : Nat) (k : Key) (d : D) (kvs : List (Key × D)) : dpx1 n k d ρ T S (some (.dic kvs)) = if kvs.length < 16777216 then .next ρ (T.set n (.dic (putD kvs k d))) S else .bad := rfl
def dpx2 (n : Nat) (k : Key) (d : D) (ρ : Vn) (T S : Sto) (o : Option Ob) : Out := match o with
  | some (.dic kvs) => if kvs.length < 16777216 then .next ρ T (S.set n (.dic (putD kvs k d))) else .bad
  | _ => .bad
theorem dpx2_s (n : Nat) (k : Key) (d : D) (kvs : List (Key × D)) : dpx2 n k d ρ T S (some (.dic kvs)) = if kvs.length < 16777216 then .next ρ T (S.set n (.dic (putD kvs k d))) else .bad := rfl
def dpxR (a : Rv) (k : Option Key) (o : Option (D × Sto)) (ρ : Vn) (S : Sto) : Out := match a, k, o with
  | .own n, some k, some (d, T') => dpx1 n k d ρ T' S T'[n]?
  | .loc n, some k, some (d, T') => dpx2 n k d ρ T' S S[n]?
  | _, _, _ => .bad
theorem dpxR_o (n : Nat) (k : Key) (d : D) : dpxR (.own n) (some k) (some (d, T)) ρ S = dpx1 n k d ρ T S T[n]? := rfl
theorem dpxR_l (n : Nat) (k : Key) (d : D) : dpxR (.loc n) (some k) (some (d, T)) ρ S = dpx2 n k d ρ T S S[n]? := rfl
def kPx3 (r a : Rv) (ρ : Vn) (b : Rv) (T S : Sto) : Out := dpxR a (keyR b) (toD r T) ρ S
theorem kPx3_a (r a b : Rv) : kPx3 r a ρ b T S = dpxR a (keyR b) (toD r T) ρ S := rfl
def kPx2 (mk : EM Rv) (r : Rv) (ρ : Vn) (a : Rv) (T S : Sto) : Out := (mk ρ T S).out ρ (kPx3 r a ρ)
theorem kPx2_a (mk : EM Rv) (r a : Rv) : kPx2 mk r ρ a T S = (mk ρ T S).out ρ (kPx3 r a ρ) := rfl
def kPx1 (md mk : EM Rv) (ρ : Vn) (r : Rv) (T S : Sto) : Out := (md ρ T S).out ρ (kPx2 mk r ρ)
theorem kPx1_a (md mk : EM Rv) (r : Rv) : kPx1 md mk ρ r T S = (md ρ T S).out ρ (kPx2 mk r ρ) := rfl
theorem ev_dputX (md mk m : EM Rv) : dputX md mk m ρ T S = (m ρ T S).out ρ (kPx1 md mk ρ) := by
  unfold dputX
  congr 1
/-! calls of one's own that lend a dict -/
/-! the language's own -/
theorem ev_rep (xs : List D) (k : Int) : o_rep (.v (.list xs)) (.v (.int k)) T S = if 0 ≤ k ∧ k ≤ 1000 ∧ xs.length ≤ 1000 then .ok (.v (.list (List.replicate k.toNat xs).flatten)) T S else .bad := rfl
def rvLR (o : Option D) (T S : Sto) : Res Rv := match o with
  | some (.list xs) => .ok (.v (.list xs.reverse)) T S
  | _ => .bad
theorem rvLR_l (xs : List D) : rvLR (some (.list xs)) T S = .ok (.v (.list xs.reverse)) T S := rfl
def kRvL (r : Rv) (T S : Sto) : Res Rv := rvLR (look r T S) T S
theorem kRvL_a (r : Rv) : kRvL r T S = rvLR (look r T S) T S := rfl
theorem ev_revL (m : EM Rv) : revLM m ρ T S = (m ρ T S).bind kRvL := rfl
def minP (o : Option (List Int)) (T S : Sto) : Res Rv := match o with
  | some (n :: ns) => .ok (.v (.int (minI (n :: ns)))) T S
  | _ => .bad
def minO (o : Option D) (T S : Sto) : Res Rv := match o with
  | some (.list xs) => minP (intsOf xs) T S
  | _ => .bad
theorem minO_l (xs : List D) : minO (some (.list xs)) T S = minP (intsOf xs) T S := rfl
theorem ev_min (r : Rv) : c_min [r] T S = minO (look r T S) T S := by
  show (match look r T S with
    | some (.list xs) => (match intsOf xs with
      | some (n :: ns) => Res.ok (Rv.v (PyData.int (minI (n :: ns)))) T S
      | _ => .bad)
    | _ => .bad) = _
  cases look r T S with
  | none => rfl
  | some d => cases d <;> rfl
def sumP (o : Option (List Int)) (T S : Sto) : Res Rv := match o with
  | some ns => .ok (.v (.int ns.sum)) T S
  | none => .bad
def sumO (o : Option D) (T S : Sto) : Res Rv := match o with
  | some (.list xs) => sumP (intsOf xs) T S
  | _ => .bad
theorem sumO_l (xs : List D) : sumO (some (.list xs)) T S = sumP (intsOf xs) T S := rfl
theorem ev_sum (r : Rv) : c_sum [r] T S = sumO (look r T S) T S := by
  show (match look r T S with
    | some (.list xs) => (match intsOf xs with
      | some ns => Res.ok (Rv.v (PyData.int ns.sum)) T S
      | none => .bad)
    | _ => .bad) = _
  cases look r T S with
  | none => rfl
  | some d => cases d <;> rfl
def srLR (o : Option D) (T S : Sto) : Res Rv := match o with
  | some (.list xs) => if sortLOk xs = true then .ok (.v (.list (sortL xs))) T S else .bad
  | _ => .bad
theorem srLR_l (xs : List D) : srLR (some (.list xs)) T S = if sortLOk xs = true then .ok (.v (.list (sortL xs))) T S else .bad := rfl
def kSrL (r : Rv) (T S : Sto) : Res Rv := srLR (look r T S) T S
theorem kSrL_a (r : Rv) : kSrL r T S = srLR (look r T S) T S := rfl
theorem ev_sortL (m : EM Rv) : sortLM m ρ T S = (m ρ T S).bind kSrL := rfl
def kPm (π : List Nat) (rs : List Rv) (T S : Sto) : Res (List Rv) := .ok (pick π rs) T S
theorem kPm_a (π : List Nat) (rs : List Rv) : kPm π rs T S = .ok (pick π rs) T S := rfl
theorem ev_permA (π : List Nat) (ms : EM (List Rv)) : permA π ms ρ T S = (ms ρ T S).bind (kPm π) := rfl
theorem pick_021 {α : Type} (a b c : α) : pick [0, 2, 1] [a, b, c] = [a, c, b] := rfl
theorem pick_01 {α : Type} (a b : α) : pick [0, 1] [a, b] = [a, b] := rfl
theorem ty_int (i : Int) : tyD (.int i) = some .int := rfl
theorem ty_bool (b : Bool) : tyD (.bool b) = some .bool := rfl
theorem ty_tup (xs : List D) : tyD (.tuple xs) = some .tuple := rfl
theorem ty_str (x : Str) : tyD (.str x) = some .str := rfl
end
/-! ### a dict by text keys, all its values lists of texts -/
def dK (ns : List Str) (r : Str → List Str) : List (Key × D) := ns.map fun n => (.inr n, .list ((r n).map .str))
theorem keys_dK (ns : List Str) (r : Str → List Str) : ((dK ns r).map fun kv => keyD kv.1) = ns.map PyData.str := by
  unfold dK
  rw [List.map_map]; rfl
end RB
end
/-! text REv9 -/
section
set_option Elab.async false
set_option linter.all false
set_option maxRecDepth 100000
set_option maxHeartbeats 4000000
/-! REv9: equations for the last pieces. -/
namespace RB
open PySem PySem.Spec PyProof.Rows L2
end RB
end
/-! text REv10 -/
section
set_option Elab.async false
set_option linter.all false
set_option maxRecDepth 100000
set_option maxHeartbeats 4000000
/-! REv10: equations for instances, for try. -/
namespace RB
open PySem PySem.Spec PyProof.Rows L2
section
variable {cls f : Str} {ρ : Vn} {T S : Sto} {n : Nat} {fs : List (Str × Rv)}
theorem insAt_of (h : S[n]? = some (.ins cls fs)) : insAt cls (.loc n) S = some (n, fs) := by
  unfold insAt
  simp only [h, if_true]
theorem insNo_of {no : Option Str} (h : S[n]? = some (.ins cls fs)) (hn : hasF no fs = false) : insNo cls no (.loc n) S = true := by
  unfold insNo
  rw [insAt_of h]
  show (!hasF no fs) = true
  rw [hn]; rfl
def mkF (T S : Sto) : FRes → Res Rv
  | .ok (.v .none) S' => .ok (.loc S.length) T S'
  | .ok _ _ => .bad
  | .exn z S' => .exn z T S'
  | .bad => .bad
def mkR (cls : Str) (fm : FM) (S : Sto) : Option (List Rv × Sto) → Res Rv
  | some p => mkF p.2 S (fm (.loc S.length :: p.1) (S ++ [.ins cls []]))
  | none => .bad
theorem ev_makeR (fm : FM) (rs : List Rv) : makeR cls fm rs T S = mkR cls fm S (toAs rs T) := by
  unfold makeR mkR mkF
  cases toAs rs T with
  | none => rfl
  | some p =>
    obtain ⟨as, T'⟩ := p
    try dsimp only
    all_goals
      cases fm (.loc S.length :: as) (S ++ [.ins cls []]) with
      | ok r S' => cases r <;> first | rfl | (rename_i d; cases d <;> rfl)
      | exn z S' => rfl
      | bad => rfl
theorem mkR_s (fm : FM) (p : List Rv × Sto) : mkR cls fm S (some p) = mkF p.2 S (fm (.loc S.length :: p.1) (S ++ [.ins cls []])) := rfl
theorem mkF_ok (S' : Sto) : mkF T S (.ok (.v .none) S') = .ok (.loc S.length) T S' := rfl
theorem mkF_exn (z : Exn) (S' : Sto) : mkF T S (.exn z S') = .exn z T S' := rfl
/-! fields -/
def fdO (T S : Sto) : Option Rv → Res Rv
  | some q => .ok q T S
  | none => .bad
theorem fdO_s (q : Rv) : fdO T S (some q) = .ok q T S := rfl
def fdI (f : Str) (T S : Sto) : Option (Nat × List (Str × Rv)) → Res Rv
  | some p => fdO T S (p.2.lookup f)
  | none => .bad
theorem fdI_s (p : Nat × List (Str × Rv)) : fdI f T S (some p) = fdO T S (p.2.lookup f) := rfl
theorem ev_fld (m : EM Rv) : fldM cls f m ρ T S = (m ρ T S).bind (fldO cls f) := rfl
theorem fldO_a (r : Rv) : fldO cls f r T S = fdI f T S (insAt cls r S) := by
  unfold fldO fdI fdO
  cases insAt cls r S with
  | none => rfl
  | some p =>
    obtain ⟨k, fs⟩ := p
    try dsimp only
    all_goals (cases fs.lookup f <;> rfl)
theorem fldV_v (d : D) : fldV (.v d) T = some (.v d, T) := rfl
def fsR (cls f : Str) (ρ : Vn) (S : Sto) : Option (Nat × List (Str × Rv)) → Option (Rv × Sto) → Out
  | some p, some q => if p.2.length < 1000 then .next ρ q.2 (S.set p.1 (.ins cls (putFd f q.1 p.2))) else .bad
  | _, _ => .bad
theorem fsR_s (p : Nat × List (Str × Rv)) (q : Rv × Sto) : fsR cls f ρ S (some p) (some q) = if p.2.length < 1000 then .next ρ q.2 (S.set p.1 (.ins cls (putFd f q.1 p.2))) else .bad := rfl
def kFs2 (cls f : Str) (ρ : Vn) (r : Rv) (a : Rv) (T S : Sto) : Out := fsR cls f ρ S (insAt cls a S) (fldV r T)
theorem kFs2_a (r a : Rv) : kFs2 cls f ρ r a T S = fsR cls f ρ S (insAt cls a S) (fldV r T) := rfl
def kFs1 (cls f : Str) (mo : EM Rv) (ρ : Vn) (r : Rv) (T S : Sto) : Out := (mo ρ T S).out ρ (kFs2 cls f ρ r)
theorem kFs1_a (mo : EM Rv) (r : Rv) : kFs1 cls f mo ρ r T S = (mo ρ T S).out ρ (kFs2 cls f ρ r) := rfl
theorem ev_fldS (mo m : EM Rv) : fldS cls f mo m ρ T S = (m ρ T S).out ρ (kFs1 cls f mo ρ) := by
  unfold fldS
  congr 1
  funext r T1 S1
  rw [kFs1_a]
  congr 1
  funext a T2 S2
  unfold kFs2 fsR
  cases insAt cls a S2 <;> cases fldV r T2 <;> rfl
/-! calls -/
def agR (fm : FM) (r : Rv) (S : Sto) : Option (List Rv × Sto) → Res Rv
  | some p => resOf p.2 (fm (r :: p.1) S)
  | none => .bad
theorem agR_s (fm : FM) (r : Rv) (p : List Rv × Sto) : agR fm r S (some p) = resOf p.2 (fm (r :: p.1) S) := rfl
theorem ev_argR (fm : FM) (r : Rv) (rs : List Rv) : argR fm r rs T S = agR fm r S (toAs rs T) := by
  unfold argR agR
  cases toAs rs T <;> rfl
theorem resOf_ok (r : Rv) (S' : Sto) : resOf T (.ok r S') = .ok r T S' := rfl
theorem noX_ok (r : Rv) : noX (.ok r T S) = .ok r T S := rfl
def kPrp (cls : Str) (fm : FM) (r : Rv) (T S : Sto) : Res Rv := if insNo cls none r S = true then noX (argR fm r [] T S) else .bad
theorem kPrp_a (fm : FM) (r : Rv) : kPrp cls fm r T S = if insNo cls none r S = true then noX (argR fm r [] T S) else .bad := rfl
theorem ev_prop (fm : FM) (mo : EM Rv) : propM cls fm mo ρ T S = (mo ρ T S).bind (kPrp cls fm) := rfl
def kSf2 (cls : Str) (fm : FM) (r : Rv) (rs : List Rv) (T S : Sto) : Res Rv := if insNo cls none r S = true then argR fm r rs T S else .bad
theorem kSf2_a (fm : FM) (r : Rv) (rs : List Rv) : kSf2 cls fm r rs T S = if insNo cls none r S = true then argR fm r rs T S else .bad := rfl
def kSf1 (cls : Str) (no : Option Str) (fm : FM) (ms : EM (List Rv)) (ρ : Vn) (r : Rv) (T S : Sto) : Res Rv := if insNo cls no r S = true then (ms ρ T S).bind (kSf2 cls fm r) else .bad
theorem kSf1_a (no : Option Str) (fm : FM) (ms : EM (List Rv)) (r : Rv) : kSf1 cls no fm ms ρ r T S = if insNo cls no r S = true then (ms ρ T S).bind (kSf2 cls fm r) else .bad := rfl
theorem ev_self (no : Option Str) (fm : FM) (mo : EM Rv) (ms : EM (List Rv)) : selfM cls no fm mo ms ρ T S = (mo ρ T S).bind (kSf1 cls no fm ms ρ) := rfl
end
theorem at_snoc (S : Sto) (o : Ob) : (S ++ [o])[S.length]? = some o := List.getElem?_concat_length
theorem set_snoc (S : Sto) (o o' : Ob) : (S ++ [o]).set S.length o' = S ++ [o'] := by
  rw [List.set_append_right _ _ (Nat.le_refl _), Nat.sub_self]; rfl
end RB
end
/-! text RDispO -/
section
set_option Elab.async false
set_option linter.all false
set_option maxRecDepth 100000
set_option maxHeartbeats 4000000
/-! RDispO: {k: v, ..} by text keys; the dict is the frame's own. -/
namespace RB
open PySem PySem.Spec PyProof.Rows L2
end RB
end
/-! text RHu -/
section
set_option Elab.async false
set_option linter.all false
namespace RB
open PySem PySem.Spec PyProof.Rows L2
end RB
end
/-! text REv11 -/
section
set_option Elab.async false
set_option linter.all false
set_option maxRecDepth 100000
set_option maxHeartbeats 4000000
/-! REv11: equations of range(a, b, -1), {k: v}, xs.index(x), min(i, j). -/
namespace RB
open PySem PySem.Spec PyProof.Rows L2
end RB
end
/-! text RFs -/
section
set_option Elab.async false
set_option linter.all false
set_option maxRecDepth 100000
set_option maxHeartbeats 4000000
/-! RFs: f-strings of texts and ints. -/
namespace RB
open PySem PySem.Spec PyProof.Rows L2
def fmtO (r : Rv) (T S : Sto) : Res Rv := match r with
  | .v (.str y) => if y.length ≤ sizeLine then .ok (.v (.str y)) T S else .bad
  | .v (.int i) => if i.natAbs.log2 < 1920 then .ok (.v (.str (toString i))) T S else .bad
  | _ => .bad
def fmtM (m : EM Rv) : EM Rv := fun ρ T S => (m ρ T S).bind fmtO
def jsK (k : Str → EM Str) (acc : Str) (ρ : Vn) (r : Rv) (T S : Sto) : Res Str := match r with
  | .v (.str y) => if (acc ++ y).length ≤ sizeLine then k (acc ++ y) ρ T S else .bad
  | _ => .bad
def jsM : List (EM Rv) → Str → EM Str
  | [], acc => fun _ T S => .ok acc T S
  | m :: ms, acc => fun ρ T S => (m ρ T S).bind (jsK (jsM ms) acc ρ)
def fsK (y : Str) (T S : Sto) : Res Rv := .ok (.v (.str y)) T S
def fsM (ms : List (EM Rv)) : EM Rv := fun ρ T S => (jsM ms Str.empty ρ T S).bind fsK
section
variable {ct : Str → Option Addr} {X : Cx} [WC X.K] {W : WX} {pos : Pos}
theorem se_fmt {e : Expr} {m : EM Rv} (h : SE ct X W e m) : SE ct X W (.FormattedValue e (-1) none pos) (fmtM m) := by
  obtain ⟨t, p, q⟩ := h
  refine ⟨_, pe_fmt p, fun ρ T S G H L M σ Q hl f sl h => ?_⟩
  refine q ρ T S G H L M σ _ hl f sl (Sat.bind h fun r T1 S1 G1 H1 L1 M1 x e1 f1 r1 h1 => ?_)
  unfold fmtO at h1
  split at h1
  · rename_i y
    split at h1
    · rename_i hz
      cases (show Rep X.K G1 x (.str y) from r1)
      exact .inl ⟨y, rfl, hz, sat_d f1 h1 (.str _)⟩
    · exact (show False from h1).elim
  · rename_i i
    split at h1
    · rename_i hz
      cases (show Rep X.K G1 x (.int i) from r1)
      exact .inr ⟨i, rfl, hz, sat_d f1 h1 (.str _)⟩
    · exact (show False from h1).elim
  · exact (show False from h1).elim
def SJ (ct : Str → Option Addr) (X : Cx) [WC X.K] (W : WX) (es : List Expr) (ms : List (EM Rv)) : Prop :=
  ∃ ts, PJ X es ts ∧ ∀ (acc : Str) (ρ : Vn) (T S : Sto) (G H : Hp) (L M : List Addr) (σ : L2.St) (Q : Str → Hp → Prop), ρ.length = σ.length → Fits X.K G H L M T S → Slots X.K G L M ρ σ → Sat ct X.K W G H L M σ (fun _ _ _ (y a : Str) => y = a) Q (jsM ms acc ρ T S) → tJs ts acc σ H Q
theorem sj_nil : SJ ct X W [] [] := ⟨[], .nil, fun acc ρ T S G H L M σ Q hl f sl h => h G H L M acc (Ext.refl _ _ _ _) f rfl⟩
theorem sj_cons {e : Expr} {es : List Expr} {m : EM Rv} {ms : List (EM Rv)} (h : SE ct X W e m) (hr : SJ ct X W es ms) : SJ ct X W (e :: es) (m :: ms) := by
  obtain ⟨t, p, q⟩ := h
  obtain ⟨ts, p2, q2⟩ := hr
  refine ⟨t :: ts, .cons p p2, fun acc ρ T S G H L M σ Q hl f sl h => ?_⟩
  refine q ρ T S G H L M σ _ hl f sl (Sat.bind h fun r T1 S1 G1 H1 L1 M1 x e1 f1 r1 h1 => ?_)
  unfold jsK at h1
  split at h1
  · rename_i y
    split at h1
    · rename_i hz
      cases (show Rep X.K G1 x (.str y) from r1)
      exact ⟨y, rfl, hz, q2 (acc ++ y) ρ T1 S1 G1 H1 L1 M1 σ Q hl f1 (sl.mono e1) h1⟩
    · exact (show False from h1).elim
  · exact (show False from h1).elim
theorem se_fs {v1 v2 : Expr} {rest : List Expr} {ms : List (EM Rv)} (h : SJ ct X W (v1 :: v2 :: rest) ms) : SE ct X W (.JoinedStr (v1 :: v2 :: rest) pos) (fsM ms) := by
  obtain ⟨ts, p, q⟩ := h
  refine ⟨_, pe_joined p, fun ρ T S G H L M σ Q hl f sl h => ?_⟩
  refine q Str.empty ρ T S G H L M σ _ hl f sl (Sat.bind h fun y T1 S1 G1 H1 L1 M1 x e1 f1 r1 h1 => ?_)
  subst r1
  exact sat_d f1 h1 (.str _)
end
section
variable {ρ : Vn} {T S : Sto}
theorem ev_fs (ms : List (EM Rv)) : fsM ms ρ T S = (jsM ms Str.empty ρ T S).bind fsK := rfl
theorem ev_js_c (m : EM Rv) (ms : List (EM Rv)) (acc : Str) : jsM (m :: ms) acc ρ T S = (m ρ T S).bind (jsK (jsM ms) acc ρ) := rfl
theorem ev_fmt (m : EM Rv) : fmtM m ρ T S = (m ρ T S).bind fmtO := rfl
theorem jsK_s (k : Str → EM Str) (acc y : Str) : jsK k acc ρ (.v (.str y)) T S = if (acc ++ y).length ≤ sizeLine then k (acc ++ y) ρ T S else .bad := rfl
theorem fmtO_i (i : Int) : fmtO (.v (.int i)) T S = if i.natAbs.log2 < 1920 then .ok (.v (.str (toString i))) T S else .bad := rfl
end
end RB
end
/-! text RAug -/
section
set_option Elab.async false
set_option linter.all false
set_option maxRecDepth 100000
set_option maxHeartbeats 4000000
/-! RAug: n += e, ints. -/
namespace RB
open PySem PySem.Spec PyProof.Rows L2
end RB
end
/-! text RKwS -/
section
set_option Elab.async false
set_option linter.all false
set_option maxRecDepth 100000
set_option maxHeartbeats 4000000
/-! RKwS: f(e, .., k = v, ..) where what is raised may be told at the slots (in a try). -/
namespace RB
open PySem PySem.Spec PyProof.Rows L2
end RB
end
/-! text RSetT2 -/
section
set_option Elab.async false
set_option linter.all false
set_option maxRecDepth 100000
set_option maxHeartbeats 4000000
/-! RSetT2: {x for .. for ..}, x a text (the walk follows the kit's lists of two fors, turned to sets). -/
namespace RB
open PySem PySem.Spec PyProof.Rows L2 PpSet
end RB
end
/-! text RSetT3 -/
section
set_option Elab.async false
set_option linter.all false
set_option maxRecDepth 100000
set_option maxHeartbeats 4000000
/-! RSetT3: a set of two fors that is kept, then sorted, as a mirror. -/
namespace RB
open PySem PySem.Spec PyProof.Rows L2
end RB
end
/-! text RSetT4 -/
section
set_option Elab.async false
set_option linter.all false
set_option maxRecDepth 100000
set_option maxHeartbeats 4000000
/-! RSetT4: y = {x for .. for ..}, then return e, tuple(sorted(y)). -/
namespace RB
open PySem PySem.Spec PyProof.Rows L2
end RB
end
/-! text RAbs -/
section
set_option Elab.async false
set_option linter.all false
set_option maxRecDepth 100000
set_option maxHeartbeats 4000000
/-! RAbs: abs(i) of a whole number. -/
namespace RB
open PySem PySem.Spec PyProof.Rows L2
end RB
end
/-! text RLend2 -/
section
set_option Elab.async false
set_option linter.all false
set_option maxRecDepth 100000
set_option maxHeartbeats 4000000
/-! RLend2: a call that is lent two lists of the caller's own. -/
namespace RB
open PySem PySem.Spec PyProof.Rows L2
end RB
end
/-! text RThing -/
section
set_option Elab.async false
set_option linter.all false
set_option maxRecDepth 100000
set_option maxHeartbeats 4000000
/-! RThing: a list whose things are lists of one's own. -/
namespace RB
open PySem PySem.Spec PyProof.Rows L2
/-! ### a comprehension of own lists -/
end RB
end
/-! text RThing2 -/
section
set_option Elab.async false
set_option linter.all false
set_option maxRecDepth 100000
set_option maxHeartbeats 4000000
/-! RThing2: xs[i], ys[j] = a, b. -/
namespace RB
open PySem PySem.Spec PyProof.Rows L2
end RB
end
/-! text RIsB -/
section
set_option Elab.async false
set_option linter.all false
set_option maxRecDepth 100000
set_option maxHeartbeats 4000000
/-! RIsB: x is True, x is not True, x a truth value. -/
namespace RB
open PySem PySem.Spec PyProof.Rows L2
end RB
end
/-! text RLenSet -/
section
set_option Elab.async false
set_option linter.all false
set_option maxRecDepth 100000
set_option maxHeartbeats 4000000
/-! RLenSet: len(set(xs)), xs a list of texts. -/
namespace RB
open PySem PySem.Spec PyProof.Rows L2
end RB
end
/-! text RKwQ -/
section
set_option Elab.async false
set_option linter.all false
set_option maxRecDepth 100000
set_option maxHeartbeats 4000000
/-! RKwQ: x(e, .., k = v, ..), some keyword-only parameters left out. -/
namespace RB
open PySem PySem.Spec PyProof.Rows L2
end RB
end
/-! text RLoc -/
section
set_option Elab.async false
set_option linter.all false
set_option maxRecDepth 100000
set_option maxHeartbeats 4000000
/-! RLoc: lists that stand in the shared store from the start. -/
namespace RB
open PySem PySem.Spec PyProof.Rows L2
end RB
end
/-! text RRdc -/
section
set_option Elab.async false
set_option linter.all false
set_option maxRecDepth 100000
set_option maxHeartbeats 4000000
/-! RRdc: a dict of the shared store whose things may be things of the store. -/
namespace RB
open PySem PySem.Spec PyProof.Rows L2
/-! ### reading and storing -/
end RB
end
/-! text RVar -/
section
set_option Elab.async false
set_option linter.all false
set_option maxRecDepth 100000
set_option maxHeartbeats 4000000
/-! RVar: defs whose last parameter takes what is left over (*rest); calls with starred arguments; class methods. -/
namespace RB
open PySem PySem.Spec PyProof.Rows L2
def tailV : List Rv → Option (List D)
  | [] => some []
  | .v d :: rs => (tailV rs).map (d :: ·)
  | _ => none
/-- np parameters, and one for the rest -/
def starF (np : Nat) (fm : FM) (as : List Rv) (S : Sto) : FRes := match tailV (as.drop np) with
  | some ds => if ds.length ≤ 16777216 then fm (as.take np ++ [.v (.tuple ds)]) S else .bad
  | none => .bad
def spS (ct : Str → Option Addr) (K : PySem.W.Frag) [WC K] (np : Nat) (fm : FM) : Sp := fun vs H Q E => ∃ ws rest, vs = ws ++ rest ∧ ws.length = np ∧ rest.length ≤ sizeLine ∧ ∀ p, H p = none → spF ct K (np + 1) fm (ws ++ [V.ref p]) (upd H p (.tup rest)) Q E
def DfS (P : Program) (w : World) (K : PySem.W.Frag) [WC K] (mg : Str → Option Value) (base : Heap) (ct : Str → Option Addr) (a : Addr) (lev np : Nat) (fm : FM) : Prop := FnR P w K mg base (L2.CX P w) lev a (spS ct K np fm)
section
variable {P : Program} {w : World} {K : PySem.W.Frag} [WC K] {mg : Str → Option Value} {base : Heap} {ct : Str → Option Addr}
theorem tailV_ok {G : Hp} {L M : List Addr} : ∀ {vs : List V} {rs : List Rv} {ds : List D}, RepRs K G L M vs rs → tailV rs = some ds → Reps K G vs ds
  | _, _, _, .nil, e => by cases e; exact .nil
  | _, _, _, .cons (r := r) (rs := rs) h hs, e => by
    cases r with
    | v d =>
      have e : (tailV rs).map (d :: ·) = _ := e
      cases q : tailV rs with
      | none => rw [q] at e; cases e
      | some es =>
        rw [q] at e
        cases e
        exact .cons h (tailV_ok hs q)
    | _ => cases e
theorem RepRs.takeN {G : Hp} {L M : List Addr} : ∀ (n : Nat) {vs : List V} {rs : List Rv}, RepRs K G L M vs rs → RepRs K G L M (vs.take n) (rs.take n)
  | 0, _, _, _ => .nil
  | _ + 1, _, _, .nil => .nil
  | n + 1, _, _, .cons h hs => .cons h (RepRs.takeN n hs)
theorem RepRs.dropN {G : Hp} {L M : List Addr} : ∀ (n : Nat) {vs : List V} {rs : List Rv}, RepRs K G L M vs rs → RepRs K G L M (vs.drop n) (rs.drop n)
  | 0, _, _, h => h
  | _ + 1, _, _, .nil => .nil
  | n + 1, _, _, .cons h hs => RepRs.dropN n hs
/-- so many arguments -/
theorem DfS.r {a : Addr} {lev np n : Nat} {fm : FM} (d : DfS P w K mg base ct a lev np fm) (hn : np ≤ n) : FnR P w K mg base (L2.CX P w) lev a (spF ct K n (starF np fm)) := by
  refine FnR.imp d fun vs H Q E h => ?_
  obtain ⟨hl, G, L, S, rs, hf, hr, h⟩ := h
  unfold starF at h
  cases e : tailV (rs.drop np) with
  | none => rw [e] at h; exact h.elim
  | some ds =>
    rw [e] at h
    dsimp only at h
    by_cases hz : ds.length ≤ 16777216
    · rw [if_pos hz] at h
      have hrl := hr.length
      have rd := tailV_ok (hr.dropN np) e
      have rl := rd.length
      refine ⟨vs.take np, vs.drop np, (List.take_append_drop np vs).symm, by rw [List.length_take]; omega, by rw [rl, sizeLine_eq]; exact hz, fun p hp => ?_⟩
      obtain ⟨x1, f1⟩ := hf.new (o := .tup (vs.drop np)) hp (fun _ z => by cases z)
      have rt : RepR K (upd G p (.tup (vs.drop np))) L [] (V.ref p) (.v (.tuple ds)) := show Rep K _ (.ref p) (.tuple ds) from .tup (.inl upd_same) (rd.mono x1.gm)
      refine ⟨by rw [List.length_append, List.length_take, List.length_singleton]; omega, upd G p (.tup (vs.drop np)), L, S, rs.take np ++ [.v (.tuple ds)], f1, RepRs.append ((hr.takeN np).mono x1) (.cons rt .nil), ?_⟩
      cases ef : fm (rs.take np ++ [.v (.tuple ds)]) S with
      | bad => rw [ef] at h; exact h.elim
      | exn z S' =>
        rw [ef] at h
        intro G' H' L' c d x2 f2 r2
        exact h G' H' L' c d (x1.trans x2) f2 r2
      | ok r S' =>
        rw [ef] at h
        intro G' H' L' y x2 f2 r2
        exact h G' H' L' y (x1.trans x2) f2 r2
    · rw [if_neg hz] at h
      exact h.elim
end
end RB
end
/-! text RDun -/
section
set_option Elab.async false
set_option linter.all false
set_option maxRecDepth 100000
set_option maxHeartbeats 4000000
/-! RDun: len, in, truth of an instance by its own methods. -/
namespace RB
open PySem PySem.Spec PyProof.Rows L2
end RB
namespace RB
open PySem PySem.Spec PyProof.Rows L2
/-! ### in the layer -/
def noW : WX := fun _ _ _ _ => False
section
variable {ct : Str → Option Addr} {X : Cx} [WC X.K] {W : WX} {cls : Str} {g : Addr} {k : Nat} {fm : FM}
theorem runIn {pins : List (Addr × Obj)} {s : Shared} {σ : L2.St} {H : Hp} {Q : VK} {A : Around} {us : List Value} {vs : List V} {n : Nat} (F : Dfi X.prog X.w X.K X.mg X.base ct g k n fm) (hr : Room k A) (e0 : Env0 X.prog X.w X.K X.mg X.base A X.stack s H) (I : Inv X pins σ H s) (r : Vals vs us) (h : spF ct X.K n fm vs H Q (WE noW σ)) :
    wpAny (model X.prog X.w) A (call (.ref g) us) (EP X pins σ Q) X.xe s := by
  refine wpAny_call (codeAny_mono (F.r A X.stack s H us vs Q _ hr e0 r h) fun z s' hz => ?_)
  match z, hz with
  | .error e, hz =>
    obtain ⟨_, _, _, _, _, _, _, _, _, _, _, _, hE⟩ := hz
    exact hE.elim
  | .ok (.ret u), hz => exact I.after hz
/-- one value more, behind a call of one's own -/
theorem spI {G H : Hp} {L M : List Addr} {T S : Sto} {σ : L2.St} {x : V} {r : Rv} {xs : List V} {rs : List Rv} {n : Nat} (ft : Fits X.K G H L M T S) (hi : insNo cls none r S = true) (hx : RepR X.K G L M x r) (hxs : RepRs X.K G L M xs rs) (hn : rs.length + 1 = n)
    {P : V → Hp → Prop} (h : Sat ct X.K noW G H L M σ (RepR X.K) P (argR fm r rs T S)) : ∃ a dx ws, x = .ref a ∧ H a = some (.ins (He.ga X.K cls) dx ws) ∧ spF ct X.K n fm (.ref a :: xs) H P (WE noW σ) := by
  obtain ⟨j, a, dx, fs, ws, rfl, hj, rfl, hh, hf, _⟩ := ins_at ft hx hi
  exact ⟨a, dx, ws, rfl, hh, self_ok (W := noW) hn ft hj hxs h⟩
end
end RB
end
/-! text RGet -/
section
set_option Elab.async false
set_option linter.all false
set_option maxRecDepth 100000
set_option maxHeartbeats 4000000
/-! RGet: x[i], x an instance with a __getitem__ of its own. -/
namespace RB
open PySem PySem.Spec PyProof.Rows L2
end RB
end
/-! text RLocC -/
section
set_option Elab.async false
set_option linter.all false
set_option maxRecDepth 100000
set_option maxHeartbeats 4000000
/-! RLocC: [x for ..], a list that stands in the shared store. -/
namespace RB
open PySem PySem.Spec PyProof.Rows L2
end RB
end
/-! text RCm -/
section
set_option Elab.async false
set_option linter.all false
set_option maxRecDepth 100000
set_option maxHeartbeats 4000000
/-! RCm: instances made where __init__ takes *rest, by starred arguments, by a class that is a value; class methods, static methods. -/
namespace RB
open PySem PySem.Spec PyProof.Rows L2
section
variable {ct : Str → Option Addr} {X : Cx} [WC X.K] {W : WX} {pos apos p : Pos} {e o : Expr} {es : List Expr} {mo : EM Rv} {ms : EM (List Rv)} {cls : Str} {k np n : Nat} {f g : Addr} {fm : FM}
/-! ### class methods, static methods -/
/-- C.m is a static method: its record at q, its def at g -/
structure SMet (K : PySem.W.Frag) (C : Addr) (mc : Value) (m : Str) (q g : Addr) : Prop where
  at_ : PySem.W.findCls K (.ref C) mc m = some (.get (.builtin "staticmethod.__get__") (.ref q) .none (.ref C))
  rc : ∃ rest, PySem.W.recIn K q "staticmethod" = some (.ref g :: rest)
  kp : PySem.W.keepIn K (.ref g) = true
theorem se_smeth {mc : Value} {ml : Str} {q : Addr} (hg : Gl X cls) (hmc : X.mg cls = some (.ref (He.ga X.K cls))) (hd : (cls == ("__debug__" : Str)) = false) (r : ClX.CRead X.K (He.ga X.K cls) mc) (c : SMet X.K (He.ga X.K cls) mc ml q g) (F : Dfi X.prog X.w X.K X.mg X.base ct g k n fm) (hr : Room k X.A) (tk : Takes X W) (ha : SAn ct X W (e :: es) n ms) {pl : Sem Bool}
    (ht : eval (.Call (.Attribute (.Name cls p) ml apos) (e :: es) [] pos) X.env = (eval (.Name cls p) X.env >>= fun ov => standAt apos.atName >>= fun _ => holding [ov] (getMethod ov ml pl) >>= fun z => callWith pos z.1 z.2 (backTo pos (starEach (e :: es) X.env)) (backToKw pos (keywordEach [] X.env))))
    (he : starEach (e :: es) X.env = (false, eval e X.env) :: starEach es X.env) (hpl : (backTo pos (starEach es X.env)).any (·.1) = false) : SE ct X W (.Call (.Attribute (.Name cls p) ml apos) (e :: es) [] pos) (callM (callF fm) ms) := by
  obtain ⟨⟨t, pa, qa⟩, hn⟩ := ha
  refine ⟨fun σ H Q => t σ H fun vs H1 => spF ct X.K n fm vs H1 Q (WE W σ), ⟨fun pins s σ H Q I h => ?_⟩, fun ρ T S G H L M' σ Q hl ft sl h => ?_⟩
  · refine PySem.W.methodCall_KW (pl := pl) (thn ((pe_glob (v := .ref (He.ga X.K cls)) hg hmc rfl hd).run pins s σ H (fun x H1 => x = .ref (He.ga X.K cls) ∧ H1 = H) I ⟨rfl, rfl⟩) fun u s1 ⟨x, H1, I1, rx, ex, eh⟩ => ?_) ht
    subst ex
    subst eh
    obtain rfl : u = Value.ref (He.ga X.K cls) := rx
    obtain ⟨rest, hp⟩ := c.rc
    refine PySem.W.method_cls I1.kIn r.ga (PySem.W.cls_bind I1.kIn r.rd c.at_ (wpAny_call (PySem.W.sm_get (s := { s1 with toks := s1.toks + 1 }) I1.kIn hp (PySem.W.handed_on rfl ?_))))
    have I2 : Inv X pins σ H1 { s1 with toks := s1.toks + 1 } := I1.tok _
    exact PySem.W.callWith_K (first := []) (h₀ := X.base) I2.ok.mod.kin c.kp (thn (pa.run pos pins _ σ H1 _ I2 h) fun us s2 ⟨vs, H2, I3, rv, q2⟩ => ⟨I3.kIn, wpAny_call (runAt F.r hr (passAt tk σ) I3 rv q2)⟩) he hpl
  · refine qa ρ T S G H L M' σ _ hl ft sl ?_
    unfold callM at h
    cases er : ms ρ T S with
    | bad => rw [er] at h; exact h
    | exn z T1 S1 => rw [er] at h; exact h
    | ok rs T1 S1 =>
      rw [er] at h
      intro G1 H1 L1 M1 xs e1 f1 r1
      have h2 : Sat ct X.K W G1 H1 L1 M1 σ (RepR X.K) Q (callF fm rs T1 S1) := Sat.pre e1 h
      unfold callF at h2
      cases ea : toAs rs T1 with
      | none => rw [ea] at h2; exact (show False from h2).elim
      | some pr =>
        obtain ⟨as, T'⟩ := pr
        rw [ea] at h2
        dsimp only at h2
        obtain ⟨G2, x2, f2, r2⟩ := toAs_ok f1 r1 ea
        refine spF_of f2 r2 (by rw [← r2.length, r1.length]; exact hn ρ T S rs T1 S1 er) (Sat.pre x2 ?_)
        unfold resOf
        cases ef : fm as S1 with
        | ok r' S' => rw [ef] at h2; exact h2
        | exn z S' => rw [ef] at h2; exact h2
        | bad => rw [ef] at h2; exact h2
end
end RB
end
/-! text RHeadC -/
section
set_option Elab.async false
set_option linter.all false
set_option maxRecDepth 100000
set_option maxHeartbeats 4000000
/-! RHeadC: class and static methods, as the head tells them. -/
namespace RB
open PySem PySem.Spec PyProof.Rows L2
section
variable {K : PySem.W.Frag} {d : GetD}
theorem crd_ok (c : clIB K d = true) : ClX.CRead K (He.ga K d.cls) (.type "type") := by
  unfold clIB at c
  rw [Bool.and_eq_true, Bool.and_eq_true, Bool.and_eq_true] at c
  exact ⟨c.2.1, He.eqO_ok c.2.2.1⟩
theorem smt_ok (c : clIB K d = true) (hk : d.kd = "staticmethod") (kp : PySem.W.keepIn K (.ref (d.ad K)) = true) : SMet K (He.ga K d.cls) (.type "type") d.fld (He.ma K (He.ga K d.cls) d.fld) (d.ad K) := by
  unfold clIB at c
  rw [Bool.and_eq_true, Bool.and_eq_true, Bool.and_eq_true] at c
  obtain ⟨c1, c2, c3, c4⟩ := c
  rw [hk] at c1
  obtain ⟨h1, h2⟩ := He5.wrapB_ok c1
  refine ⟨h1, ?_, kp⟩
  unfold GetD.ad
  rw [hk]
  exact h2
end
end RB
end
/-! text RMethS -/
section
set_option Elab.async false
set_option linter.all false
set_option maxRecDepth 100000
set_option maxHeartbeats 4000000
/-! RMethS: o.m(*row), row a tuple. -/
namespace RB
open PySem PySem.Spec PyProof.Rows L2
/-! equations -/
end RB
end
/-! text RInsL -/
section
set_option Elab.async false
set_option linter.all false
set_option maxRecDepth 100000
set_option maxHeartbeats 4000000
/-! RInsL: a list of one's own that holds an instance: append, for. -/
namespace RB
open PySem PySem.Spec PyProof.Rows L2
end RB
end
/-! text RFv -/
section
set_option Elab.async false
set_option linter.all false
set_option maxRecDepth 100000
set_option maxHeartbeats 4000000
/-! RFv: a def as a value; a call of a local name that holds one of two defs. -/
namespace RB
open PySem PySem.Spec PyProof.Rows L2
end RB
end
/-! text RCmpI -/
section
set_option Elab.async false
set_option linter.all false
set_option maxRecDepth 100000
set_option maxHeartbeats 4000000
/-! RCmpI: a comprehension of instances; a, b = such a list. -/
namespace RB
open PySem PySem.Spec PyProof.Rows L2
/-! ### a comprehension of instances -/
end RB
end
/-! text RUnpI -/
section
set_option Elab.async false
set_option linter.all false
set_option maxRecDepth 100000
set_option maxHeartbeats 4000000
/-! RUnpI: a, b, c = a list of one's own that holds three instances. -/
namespace RB
open PySem PySem.Spec PyProof.Rows L2
end RB
end
/-! text RBinK -/
section
set_option Elab.async false
set_option linter.all false
set_option maxRecDepth 100000
set_option maxHeartbeats 4000000
/-! RBinK: binary operators and comparisons of an instance with own methods: what the interpreter does. -/
namespace PySem.W
open PySem PySem.Calls PyProof.Rows
section
variable {prog : Program} {w : World} {A : Around} {E : Value → Shared → Prop} {s : Shared} {K : Frag} {x C f : Addr} {ox : Obj} {od : Option Obj} {nm T : String}
theorem cmp_ownK {op : CmpOp} {b tb : Value} {Q : Value → Shared → Prop} (hu : A.units < cLine) (X : K.In s.heap) (I : InstAt s.heap x ox C od) (hb : Looks (model prog w) s.heap (typeOf b) tb) (hn : notFirst K C tb = true)
    (hs : findIn K (.ref C) (cmpInfo op).2.1 = some (some (.ref f))) (hf : isFn K (.ref f) = true)
    (h : wpAny (model prog w) A (call (.ref f) [.ref x, b]) (CmpBack Q) E s) : wpAny (model prog w) A (richCompare op (.ref x) b) Q E s := by
  have one : wpAny (model prog w) A (tryCompare (.ref x) (cmpInfo op).2.1 b) (fun r s' => ∃ v, r = some v ∧ Q v s') E s := by
    unfold tryCompare
    refine wpAny_bind (ifBound_K X I hs hf (wpAny_mono h (fun v s' hv => ?_) fun _ _ e => e))
    cases v <;> first | exact hv.elim | exact wpAny_pure ⟨_, rfl, hv⟩
  unfold richCompare
  simp only [oneThing_ref]
  refine wpAny_holding (wpAny_bind (wpAny_cRoomFor hu ?_))
  refine wpAny_bind (I.type.here (wpAny_bind (hb.here ?_)))
  split
  · rename_i q
    have e : subIn K tb (.ref C) = some false := by
      rcases Bool.or_eq_true_iff.mp hn with e | e
      · rw [beq_iff_eq.mp e] at q; simp at q
      · exact beq_iff_eq.mp e
    refine wpAny_bind ((looks_subIn X e).here ?_)
    simp only [Bool.false_eq_true, if_false]
    refine wpAny_bind (wpAny_mono one (fun r s' z => ?_) fun _ _ e => e)
    obtain ⟨v, rfl, hq⟩ := z
    exact wpAny_pure hq
  · refine wpAny_bind (wpAny_pure ?_)
    simp only [Bool.false_eq_true, if_false]
    refine wpAny_bind (wpAny_mono one (fun r s' z => ?_) fun _ _ e => e)
    obtain ⟨v, rfl, hq⟩ := z
    exact wpAny_pure hq
theorem bin_same {op : Operator} {b : Value} {Q : Value → Shared → Prop} (X : K.In s.heap) (I : InstAt s.heap x ox C od) (hb : Looks (model prog w) s.heap (typeOf b) (.ref C)) (hc : selfFirst K C = true)
    (hs : findIn K (.ref C) (PySem.dunder op.info.2) = some (some (.ref f))) (hf : isFn K (.ref f) = true)
    (h : wpAny (model prog w) A (call (.ref f) [.ref x, b]) (CmpBack Q) E s) : wpAny (model prog w) A (binaryOp op (.ref x) b) Q E s := by
  obtain ⟨cd, rest, hcd, hm⟩ := ksp_first hc
  unfold binaryOp
  refine wpAny_holding (wpAny_bind ?_)
  unfold binaryOp1
  refine wpAny_bind (I.type.here (wpAny_bind (hb.here (wpAny_bind ((fills_K X hcd hm hs).here ?_)))))
  simp only [beq_self_eq_true, if_true]
  refine wpAny_bind (wpAny_pure ?_)
  simp only [Bool.and_false, Bool.false_eq_true, if_false, Bool.false_and]
  refine wpAny_bind (wpAny_pure ?_)
  simp only [Bool.false_eq_true, if_false]
  refine wpAny_bind (m := tryMethod (.ref x) _ b) ?_
  unfold tryMethod
  refine wpAny_bind (special_fn X I hs (beq_iff_eq.mp hf) (wpAny_mono h (fun v s' hv => ?_) fun _ _ e => e))
  cases v <;> first | exact hv.elim | exact wpAny_pure (wpAny_pure (wpAny_pure hv))
theorem bin_kind {op : Operator} {b : Value} {fo ro rc : Option Value} {Q : Value → Shared → Prop} (X : K.In s.heap) (I : InstAt s.heap x ox C od) (hb : Looks (model prog w) s.heap (typeOf b) (.type T)) (hc : selfFirst K C = true)
    (hs : findIn K (.ref C) (PySem.dunder op.info.2) = some (some (.ref f))) (hf : isFn K (.ref f) = true) (hr : findIn K (.ref C) (dunderR op.info.2) = some rc) (hp : rc = none ∨ ∃ g : Addr, rc = some (.ref g))
    (h1 : findIn K (.type T) (PySem.dunder op.info.2) = some fo) (h2 : findIn K (.type T) (dunderR op.info.2) = some ro) (hsub : subIn K (.type T) (.ref C) = some false)
    (h : wpAny (model prog w) A (call (.ref f) [.ref x, b]) (CmpBack Q) E s) : wpAny (model prog w) A (binaryOp op (.ref x) b) Q E s := by
  obtain ⟨cd, rest, hcd, hm⟩ := ksp_first hc
  rcases hi : op.info with ⟨sym, nm'⟩
  rw [hi] at hs hr h1 h2
  dsimp only at hs hr h1 h2
  have one := ksp_try X I hs hf h
  obtain ⟨hh, g, d, tt, os⟩ := s
  have L1 : Looks (model prog w) hh (typeOf (.ref x)) (.ref C) := I.type
  have L2 : Looks (model prog w) hh (typeOf b) (.type T) := hb
  have L3 : Looks (model prog w) hh (fillsNumberSlot (.ref C) nm') true := fills_K X hcd hm hs
  have L4 : Looks (model prog w) hh (fillsNumberSlot (.type T) nm') ((fo.isSome && !isSeqSlot fo) || (ro.isSome && !isSeqSlot ro)) := ksp_fillsT X h1 h2
  have L5 : Looks (model prog w) hh (isSubtype (.type T) (.ref C)) false := looks_subIn X hsub
  have L6 : Looks (model prog w) hh (numberSlotInPython (.ref C) nm') true := ksp_inPy X hs hr hp
  have L7 : Looks (model prog w) hh (numberSlotInPython (.type T) nm') false := Looks.of_pure rfl
  have L8 : Looks (model prog w) hh (typeLookup (.type T) (dunderR nm')) ro := looks_findIn X h2
  generalize ((fo.isSome && !isSeqSlot fo) || (ro.isSome && !isSeqSlot ro)) = right at L4
  have hne : (Value.ref C == Value.type T) = false := Bool.eq_false_iff.mpr fun q => by cases beq_iff_eq.mp q
  simp only [binaryOp, hi]
  refine wpAny_holding (wpAny_bind ?_)
  unfold binaryOp1
  refine wpAny_bind (L1.at (wpAny_bind (L2.at (wpAny_bind (L3.at ?_)))))
  simp only [hne, Bool.false_eq_true, if_false]
  cases right with
  | false =>
    ksp_lk
    refine wpAny_mono one (fun r s' hr' => ?_) fun _ _ e => e
    obtain ⟨v, rfl, hq⟩ := hr'
    ksp_lk
    exact hq
  | true =>
    ksp_lk
    refine wpAny_mono one (fun r s' hr' => ?_) fun _ _ e => e
    obtain ⟨v, rfl, hq⟩ := hr'
    ksp_lk
    exact hq
end
end PySem.W
end
/-! text RBinI -/
section
set_option Elab.async false
set_option linter.all false
set_option maxRecDepth 100000
set_option maxHeartbeats 4000000
/-! RBinI: binary operators and comparisons of instances with own methods; a value that is never asked for. -/
namespace RB
open PySem PySem.Spec PyProof.Rows L2
def isVB : Rv → Bool
  | .v _ => true
  | _ => false
def sideB (cls : Str) (r : Rv) (S : Sto) : Bool := isVB r || insNo cls none r S
/-- a op b, a an instance -/
def binI (cls : Str) (fm : FM) (a b : Rv) (T S : Sto) : Res Rv := if insNo cls none a S = true ∧ sideB cls b S = true then argR fm a [b] T S else .bad
/-- a == b, a <= b, a an instance -/
def cmI (cls : Str) (fm : FM) (a b : Rv) (T S : Sto) : Res Rv := if insNo cls none a S = true ∧ sideB cls b S = true then match argR fm a [b] T S with
  | .ok (.v (.bool c)) T' S' => .ok (.v (.bool c)) T' S'
  | _ => .bad else .bad
/-- never asked for -/
def noM : EM Rv := fun _ _ _ => .bad
theorem opB_ok {K : PySem.W.Frag} {C f : Addr} {nm : String} (h : opB K C f nm = true) : PySem.W.selfFirst K C = true ∧ PySem.W.findIn K (.ref C) (PySem.dunder nm) = some (some (.ref f)) ∧ PySem.W.isFn K (.ref f) = true ∧
    (∃ rc, PySem.W.findIn K (.ref C) (dunderR nm) = some rc ∧ (rc = none ∨ ∃ g : Addr, rc = some (.ref g))) ∧
    ∀ t ∈ kinds6, (∃ fo, PySem.W.findIn K (.type t) (PySem.dunder nm) = some fo) ∧ (∃ ro, PySem.W.findIn K (.type t) (dunderR nm) = some ro) ∧ PySem.W.subIn K (.type t) (.ref C) = some false := by
  unfold opB at h
  rw [Bool.and_eq_true, Bool.and_eq_true, Bool.and_eq_true, Bool.and_eq_true, List.all_eq_true] at h
  obtain ⟨h1, h2, h3, h4, h5⟩ := h
  refine ⟨h1, He.eqO_ok h2, h3, ?_, fun t ht => ?_⟩
  · unfold rcB at h4
    split at h4
    · rename_i q; exact ⟨_, q, .inl rfl⟩
    · rename_i q; exact ⟨_, q, .inr ⟨_, rfl⟩⟩
    · cases h4
  · have := h5 t ht
    rw [Bool.and_eq_true, Bool.and_eq_true, decide_eq_true_eq] at this
    exact ⟨Option.isSome_iff_exists.mp this.1, Option.isSome_iff_exists.mp this.2.1, this.2.2⟩
theorem cmB_ok {K : PySem.W.Frag} {C f : Addr} {nm : Str} (h : cmB K C f nm = true) : PySem.W.findIn K (.ref C) nm = some (some (.ref f)) ∧ PySem.W.isFn K (.ref f) = true ∧ PySem.W.subIn K (.ref C) (.type "str") = some false ∧ ∀ t ∈ kinds6, PySem.W.notFirst K C (.type t) = true := by
  unfold cmB at h
  rw [Bool.and_eq_true, Bool.and_eq_true, Bool.and_eq_true, decide_eq_true_eq, List.all_eq_true] at h
  exact ⟨He.eqO_ok h.1, h.2.1, h.2.2.1, h.2.2.2⟩
/-- the right side, below -/
def Side (K : PySem.W.Frag) (cls : Str) (y : V) (H : Hp) : Prop := (∃ t ∈ kinds6, TyX K H y (.type t)) ∨ ∃ b dx fs, y = .ref b ∧ H b = some (.ins (He.ga K cls) dx fs)
section
variable {ct : Str → Option Addr} {X : Cx} [WC X.K] {W : WX} {pos : Pos} {a b : Expr} {ma mb : EM Rv} {cls : Str} {k : Nat} {g : Addr} {fm : FM} {nm : String}
theorem se_noM {e : Expr} : SE ct X W e noM := ⟨fun _ _ _ => False, ⟨fun _ _ _ _ _ _ h => h.elim⟩, fun _ _ _ _ _ _ _ _ _ _ _ _ h => (show False from h).elim⟩
theorem side_ok {G H : Hp} {L M : List Addr} {T S : Sto} {y : V} {r : Rv} (ft : Fits X.K G H L M T S) (h : RepR X.K G L M y r) (e : sideB cls r S = true) : Side X.K cls y H := by
  unfold sideB at e
  rcases Bool.or_eq_true_iff.mp e with e | e
  · cases r with
    | v d =>
      obtain ⟨t, ht, ty⟩ := ty_data ft (show Rep X.K G y d from h)
      exact .inl ⟨t, ht, ty⟩
    | _ => cases e
  · obtain ⟨j, b, dx, fs, ws, rfl, _, rfl, hh, _⟩ := ins_at ft h e
    exact .inr ⟨b, dx, ws, rfl, hh⟩
theorem back_of {pins : List (Addr × Obj)} {σ : L2.St} {Q : VK} {v : Value} {s : Shared} (h : EP X pins σ Q v s) : PySem.W.CmpBack (EP X pins σ Q) v s := by
  cases v with
  | notImplemented =>
    obtain ⟨x, H', _, r, _⟩ := h
    cases x <;> first | (obtain ⟨_, q⟩ := r; cases q; done) | (cases r; done)
  | _ => exact h
theorem run_bin {op : Operator} (ho : opB X.K (He.ga X.K cls) g op.info.2 = true) {pins : List (Addr × Obj)} {σ : L2.St} {H : Hp} {s : Shared} {Q : Value → Shared → Prop} {x : Addr} {y : V} {u : Value} {dx : Addr} {fs : List (Str × V)} {E : Value → Shared → Prop} (I : Inv X pins σ H s)
    (hx : H x = some (.ins (He.ga X.K cls) dx fs)) (ry : RelV y u) (sd : Side X.K cls y H) (h : wpAny (model X.prog X.w) X.A (call (.ref g) [.ref x, u]) (PySem.W.CmpBack Q) E s) : wpAny (model X.prog X.w) X.A (binaryOp op (.ref x) u) Q E s := by
  obtain ⟨h1, h2, h3, ⟨rc, h4, h5⟩, h6⟩ := opB_ok ho
  obtain ⟨ox, od, J, _⟩ := StX.insC_at I (.inr ⟨dx, fs, hx⟩)
  rcases sd with ⟨t, ht, ty⟩ | ⟨z, dz, gs, rfl, hz⟩
  · obtain ⟨P, Z, p, _⟩ := kit_of I ry ty
    obtain ⟨⟨fo, e1⟩, ⟨ro, e2⟩, e3⟩ := h6 t ht
    exact PySem.W.bin_kind I.kIn J (Z.ty _ _ I.kIn p) h1 h2 h3 h4 h5 e1 e2 e3 h
  · cases (show u = Value.ref z from ry)
    obtain ⟨oz, odz, J2, _⟩ := StX.insC_at I (.inr ⟨dz, gs, hz⟩)
    exact PySem.W.bin_same I.kIn J J2.type h1 h2 h3 h
theorem run_cmp {op : CmpOp} (ho : cmB X.K (He.ga X.K cls) g (cmpInfo op).2.1 = true) (hu : X.A.units < cLine) {pins : List (Addr × Obj)} {σ : L2.St} {H : Hp} {s : Shared} {Q : Value → Shared → Prop} {x : Addr} {y : V} {u : Value} {dx : Addr} {fs : List (Str × V)} {E : Value → Shared → Prop} (I : Inv X pins σ H s)
    (hx : H x = some (.ins (He.ga X.K cls) dx fs)) (ry : RelV y u) (sd : Side X.K cls y H) (h : wpAny (model X.prog X.w) X.A (call (.ref g) [.ref x, u]) (PySem.W.CmpBack Q) E s) : wpAny (model X.prog X.w) X.A (richCompare op (.ref x) u) Q E s := by
  obtain ⟨h2, h3, _, h6⟩ := cmB_ok ho
  obtain ⟨ox, od, J, _⟩ := StX.insC_at I (.inr ⟨dx, fs, hx⟩)
  rcases sd with ⟨t, ht, ty⟩ | ⟨z, dz, gs, rfl, hz⟩
  · obtain ⟨P, Z, p, _⟩ := kit_of I ry ty
    exact PySem.W.cmp_ownK hu I.kIn J (Z.ty _ _ I.kIn p) (h6 t ht) h2 h3 h
  · cases (show u = Value.ref z from ry)
    obtain ⟨oz, odz, J2, _⟩ := StX.insC_at I (.inr ⟨dz, gs, hz⟩)
    exact PySem.W.cmp_ownK hu I.kIn J J2.type (by unfold PySem.W.notFirst; rw [beq_self_eq_true, Bool.true_or]) h2 h3 h
/-- a op b -/
theorem se_binI {op : Operator} (ho : opB X.K (He.ga X.K cls) g op.info.2 = true) (F : Dfi X.prog X.w X.K X.mg X.base ct g k 2 fm) (hr : Room k X.A) (tk : Takes X W) (ha : SE ct X W a ma) (hb : SE ct X W b mb) : SE ct X W (.BinOp a op b pos) (bin (binI cls fm) ma mb) := by
  obtain ⟨ta, pa, qa⟩ := ha
  obtain ⟨tb, pb, qb⟩ := hb
  refine ⟨fun σ H Q => ta σ H fun x H1 => tb σ H1 fun y H2 => ∃ p dx fs, x = .ref p ∧ H2 p = some (.ins (He.ga X.K cls) dx fs) ∧ Side X.K cls y H2 ∧ spF ct X.K 2 fm [.ref p, y] H2 Q (WE W σ), ⟨fun pins s σ H Q I h => ?_⟩, fun ρ T S G H L M σ Q hl f sl h => ?_⟩
  · refine wpAny_BinOp (binT pa pb (R := fun x y H2 => ∃ p dx fs, x = .ref p ∧ H2 p = some (.ins (He.ga X.K cls) dx fs) ∧ Side X.K cls y H2 ∧ spF ct X.K 2 fm [.ref p, y] H2 Q (WE W σ)) I h fun v u s2 x y H2 I2 rx ry q => ?_)
    obtain ⟨p, dx, fs, rfl, hp, sd, q⟩ := q
    cases (show v = Value.ref p from rx)
    refine run_bin ho I2 hp ry sd (wpAny_mono (wpAny_call (runAt (us := [.ref p, u]) (vs := [.ref p, y]) F.r hr (passAt tk σ) I2 (.cons rfl (.cons ry .nil)) q)) (fun _ _ z => back_of z) fun _ _ z => z)
  · refine qa ρ T S G H L M σ _ hl f sl (Sat.bind h fun va T1 S1 G1 H1 L1 M1 x e1 f1 r1 h1 => ?_)
    refine qb ρ T1 S1 G1 H1 L1 M1 σ _ hl f1 (sl.mono e1) (Sat.bind h1 fun vb T2 S2 G2 H2 L2 M2 y e2 f2 r2 h2 => ?_)
    unfold binI at h2
    split at h2
    · rename_i hz
      have r1' := r1.mono e2
      obtain ⟨j, p, dx, fs, ws, rfl, hj, rfl, hh, _⟩ := ins_at f2 r1' hz.1
      exact ⟨p, dx, ws, rfl, hh, side_ok f2 r2 hz.2, self_ok (rs := [vb]) rfl f2 hj (.cons r2 .nil) h2⟩
    · exact (show False from h2).elim
/-- a == b, a <= b .. -/
theorem ops_cmI {op : CmpOp} (hop : ∀ u v, compareOp op u v = richCompare op u v) (ho : cmB X.K (He.ga X.K cls) g (cmpInfo op).2.1 = true) (F : Dfi X.prog X.w X.K X.mg X.base ct g k 2 fm) (hr : Room k X.A) (hu : X.A.units + 1 < cLine) : OpS ct X W (compareOp op) (cmI cls fm) := by
  refine ⟨fun x y H Q => ∃ p dx fs, x = .ref p ∧ H p = some (.ins (He.ga X.K cls) dx fs) ∧ Side X.K cls y H ∧ ∀ σ, spF ct X.K 2 fm [.ref p, y] H Q (WE noW σ), fun pins s σ H x y v u Q I rx ry h => ?_, fun x y a b T S G H L M σ Q ft ra rb h => ?_⟩
  · obtain ⟨p, dx, fs, rfl, hp, sd, h⟩ := h
    cases (show v = Value.ref p from rx)
    rw [hop]
    exact run_cmp ho (Nat.lt_of_succ_lt hu) I hp ry sd (wpAny_mono (runIn (us := [.ref p, u]) (vs := [.ref p, y]) F hr I.env0 I (.cons rfl (.cons ry .nil)) (h σ)) (fun _ _ z => back_of z) fun _ _ z => z)
  · unfold cmI at h
    split at h
    · rename_i hz
      obtain ⟨j, p, dx, fs, ws, rfl, hj, rfl, hh, _⟩ := ins_at ft ra hz.1
      refine ⟨p, dx, ws, rfl, hh, side_ok ft rb hz.2, fun σ' => self_ok (W := noW) (rs := [b]) rfl ft hj (.cons rb .nil) ?_⟩
      split at h
      · rename_i c T' S' e
        rw [e]
        exact fun G1 H1 L1 M1 y x1 f1 r1 => h G1 H1 L1 M1 y x1 f1 r1
      · exact (show False from h).elim
    · exact (show False from h).elim
end
end RB
end
/-! text RZipT0 -/
section
set_option Elab.async false
set_option linter.all false
set_option maxRecDepth 100000
set_option maxHeartbeats 4000000
/-! RZipT0: a zip of two lists, put into a list or a tuple. -/
namespace RB
open PySem
namespace ZT
/-- the pairs so far -/
def ZAcc (z TO i1 i2 S : Addr) (xs ys acc : Array Value) (i : Nat) (h : Heap) : Prop :=
  acc.size = i ∧ (∀ (j : Nat) (v : Value), acc[j]? = some v → ∃ (p : Addr) (x y : Value), v = Value.ref p ∧ IsPair h p x y ∧ xs[j]? = some x ∧ ys[j]? = some y ∧ p ∉ [S, z, TO, i1, i2] ∧ S < p) ∧
    ∀ (j k : Nat) (p q : Addr), j < k → acc[j]? = some (Value.ref p) → acc[k]? = some (Value.ref q) → p < q
theorem ZAcc.push {z TO i1 i2 S p : Addr} {xs ys acc : Array Value} {i : Nat} {h : Heap} {x y : Value} (a : ZAcc z TO i1 i2 S xs ys acc i h) (hp : PySem.IsPair h p x y) (hx : xs[i]? = some x) (hy : ys[i]? = some y) (hn : p ∉ [S, z, TO, i1, i2]) (hl : S < p) (hm : ∀ (j : Nat) (q : Addr), acc[j]? = some (Value.ref q) → q < p) : ZAcc z TO i1 i2 S xs ys (acc.push (Value.ref p)) (i + 1) h := by
  refine ⟨by rw [Array.size_push, a.1], fun j v hj => ?_, fun j k q1 q2 hjk h1 h2 => ?_⟩
  · rw [Array.getElem?_push] at hj
    split at hj
    · rename_i e; rw [a.1] at e; subst e; cases hj; exact ⟨p, x, y, rfl, hp, hx, hy, hn, hl⟩
    · exact a.2.1 j v hj
  · rw [Array.getElem?_push] at h1 h2
    split at h2
    · rename_i e
      cases h2
      split at h1
      · rename_i e2; omega
      · exact hm j q1 h1
    · split at h1
      · rename_i e2
        have := (Array.getElem?_eq_some_iff.mp h2).1
        omega
      · exact a.2.2 j k q1 q2 hjk h1 h2
theorem ZAcc.keep {z TO i1 i2 S : Addr} {xs ys acc : Array Value} {i : Nat} {h h' : Heap} (a : ZAcc z TO i1 i2 S xs ys acc i h) (hk : ∀ c o, c ∉ [S, z, TO, i1, i2] → h.get? c = some o → h'.get? c = some o) : ZAcc z TO i1 i2 S xs ys acc i h' :=
  ⟨a.1, fun j v hj => by obtain ⟨p, x, y, e, hp, hx, hy, hn, hl⟩ := a.2.1 j v hj; exact ⟨p, x, y, e, hk _ _ hn hp, hx, hy, hn, hl⟩, a.2.2⟩
theorem ZAcc.lt {z TO i1 i2 S : Addr} {xs ys acc : Array Value} {i : Nat} {h : Heap} (a : ZAcc z TO i1 i2 S xs ys acc i h) : ∀ (j : Nat) (q : Addr), acc[j]? = some (Value.ref q) → q < h.objs.size := fun j q hj => by
  obtain ⟨p, x, y, e, hp, _⟩ := a.2.1 j _ hj
  cases e
  exact Heap.lt_size hp
end ZT
end RB
end
/-! text RZipT1 -/
section
set_option Elab.async false
set_option linter.all false
set_option maxRecDepth 100000
set_option maxHeartbeats 4000000
/-! RZipT1: tuple(zip(a, b)), a and b lists. -/
namespace RB
open PySem
end RB
end
/-! text RZipT2 -/
section
set_option Elab.async false
set_option linter.all false
set_option maxRecDepth 100000
set_option maxHeartbeats 4000000
/-! RZipT2: tuple(zip(a, b)) in the abstract heap. -/
namespace RB
open PySem PySem.Spec PyProof.Rows L2
end RB
end
/-! text RZipT -/
section
set_option Elab.async false
set_option linter.all false
set_option maxRecDepth 100000
set_option maxHeartbeats 4000000
/-! RZipT: tuple(zip(a, b)), a and b lists. -/
namespace RB
open PySem PySem.Spec PyProof.Rows L2
end RB
end
/-! text RSplit -/
section
set_option Elab.async false
set_option linter.all false
set_option maxRecDepth 100000
set_option maxHeartbeats 4000000
/-! RSplit: s.split(sep); t.index(x), t a tuple of texts; o.f += e, numbers. -/
namespace RB
open PySem PySem.Spec PyProof.Rows L2
end RB
end
/-! text RGTup -/
section
set_option Elab.async false
set_option linter.all false
set_option maxRecDepth 100000
set_option maxHeartbeats 4000000
/-! RGTup: a tuple of texts of the module: T[a:b], T.index(x), x in it. As a value it is .glo. -/
namespace RB
open PySem PySem.Spec PyProof.Rows L2
structure GTup (K : PySem.W.Frag) (mg : Str → Option Value) (x : Str) (ys : List Str) : Prop where
  m : mg x = some (.ref (He.ga K x))
  o : ∃ (o : Obj) (its : Array Value) (n : Nat), K.lookup (He.ga K x) = some o ∧ o.cls = .type "tuple" ∧ o.dict = none ∧ o.data = .seq its n ∧ its.size ≤ sizeLine ∧ Vals (ys.map V.str) its.toList
theorem GTup.ty {K : PySem.W.Frag} {mg : Str → Option Value} {x : Str} {ys : List Str} (g : GTup K mg x ys) (H : Hp) : tyV K "tuple" (.ref (He.ga K x)) H := by
  obtain ⟨o, its, n, h1, h2, h3, h4, h5, h6⟩ := g.o
  exact .inr (.inl ⟨rfl, o, h1, h2, h3⟩)
end RB
end
/-! text RIntT -/
section
set_option Elab.async false
set_option linter.all false
set_option maxRecDepth 100000
set_option maxHeartbeats 4000000
/-! RIntT: int(text). -/
namespace RB
open PySem PySem.Spec PyProof.Rows L2
end RB
end
/-! text ROwnL -/
section
set_option Elab.async false
set_option linter.all false
set_option maxRecDepth 100000
set_option maxHeartbeats 4000000
/-! ROwnL: [[], [], ..]: a written list of own lists. -/
namespace RB
open PySem PySem.Spec PyProof.Rows L2
end RB
end
/-! text RMkD -/
section
set_option Elab.async false
set_option linter.all false
set_option maxRecDepth 100000
set_option maxHeartbeats 4000000
/-! RMkD: C(e, ..), where the last parameters of __init__ have defaults and are left out. -/
namespace RB
open PySem PySem.Spec PyProof.Rows L2
/-- a def that denotes f; the defaults of its last parameters -/
def DfiD (P : Program) (w : World) (K : PySem.W.Frag) [WC K] (mg : Str → Option Value) (base : Heap) (ct : Str → Option Addr) (a : Addr) (lev n : Nat) (dfl : List D) (f : FM) : Prop :=
  ∃ fd ps, FnOk P w K mg base (L2.CX P w) lev a fd ps (spF ct K n f) ∧ Binds K fd ps [] ∧ ∃ (ds : List Value) (dvs : List V), Binds K fd ps ds ∧ Vals dvs ds ∧ ∀ G, Reps K G dvs dfl
end RB
end
/-! text RRep1 -/
section
set_option Elab.async false
set_option linter.all false
set_option maxRecDepth 100000
set_option maxHeartbeats 4000000
/-! RRep1: t * k, also for k = 1. -/
namespace RB
open PySem PySem.Spec PyProof.Rows L2
end RB
end
/-! text RPickG -/
section
set_option Elab.async false
set_option linter.all false
set_option maxRecDepth 100000
set_option maxHeartbeats 4000000
/-! RPickG: [f, g, ..][k], defs of the module; s.split(sep) as an own list. -/
namespace RB
open PySem PySem.Spec PyProof.Rows L2
end RB
end
/-! text RCallT -/
section
set_option Elab.async false
set_option linter.all false
set_option maxRecDepth 100000
set_option maxHeartbeats 4000000
/-! RCallT: x(e, ..) and x(e, .., k = v, ..), x a local name that holds one of some defs. -/
namespace RB
open PySem PySem.Spec PyProof.Rows L2
abbrev FTab := List (Str × FM)
theorem lookup_mem {tb : FTab} {x : Str} {f : FM} (h : tb.lookup x = some f) : (x, f) ∈ tb := by
  induction tb with
  | nil => cases h
  | cons p tb ih =>
    obtain ⟨y, g⟩ := p
    rw [List.lookup_cons] at h
    split at h
    · rename_i e
      injection h with h
      subst h
      have : x = y := by simpa using e
      rw [this]
      exact List.mem_cons_self
    · exact List.mem_cons_of_mem _ (ih h)
end RB
end
/-! text RMulS -/
section
set_option Elab.async false
set_option linter.all false
set_option maxRecDepth 100000
set_option maxHeartbeats 4000000
/-! RMulS: text * int. -/
namespace RB
open PySem PySem.Spec PyProof.Rows L2
end RB
end
/-! text RPull -/
section
set_option Elab.async false
set_option linter.all false
set_option maxRecDepth 100000
set_option maxHeartbeats 4000000
/-! RPull: a + b as a list of the shared store; the last thing of the shared store becomes an own list. -/
namespace RB
open PySem PySem.Spec PyProof.Rows L2
def plainO : Ob → Bool
  | .ins _ _ => false
  | .rls _ => false
  | .rdc _ => false
  | _ => true
theorem ROb.plainO {K : PySem.W.Frag} [WC K] {L M L' M' : List Addr} {G H : Hp} {a : Addr} {o : Ob} (hp : plainO o = true) (h : ROb K L M G H a o) : ROb K L' M' G H a o := by
  cases o with
  | ins c fs => cases hp
  | rls rs => cases hp
  | rdc kvs => cases hp
  | _ => exact h
end RB
end
/-! text RStrI -/
section
set_option Elab.async false
set_option linter.all false
set_option maxRecDepth 100000
set_option maxHeartbeats 4000000
/-! RStrI: str(x) by an own method, f'..' of one part, x(e, ..) of one of some plain defs, cls(e, ..) in a class method. -/
namespace RB
open PySem PySem.Spec PyProof.Rows L2
/-- str(x) -/
def strI (cls : Str) (fm : FM) (rs : List Rv) (T S : Sto) : Res Rv := match rs with
  | [r] => if insNo cls none r S = true then (match argR fm r [] T S with
    | .ok (.v (.str b)) T' S' => .ok (.v (.str b)) T' S'
    | _ => .bad) else .bad
  | _ => .bad
section
variable {ct : Str → Option Addr} {X : Cx} [WC X.K] {W : WX} {cls : Str} {g : Addr} {k : Nat} {fm : FM}
theorem cs_strI (hs : PySem.W.findIn X.K (.ref (He.ga X.K cls)) "__str__" = some (some (.ref g))) (hf : PySem.W.isFn X.K (.ref g) = true) (F : Dfi X.prog X.w X.K X.mg X.base ct g k 1 fm) (hr : Room (k + 2) X.A) : CallS ct X W (.type "str") (strI cls fm) := by
  refine ⟨fun xs H Q => ∃ a dx fs, xs = [.ref a] ∧ H a = some (.ins (He.ga X.K cls) dx fs) ∧ ∀ σ, spF ct X.K 1 fm [.ref a] H (fun v H' => ∃ b, v = .str b ∧ Q (.str b) H') (WE noW σ), fun pins s σ H xs us Q I r h => ?_, fun xs rs T S G H L M σ Q ft rr h => ?_⟩
  · obtain ⟨a, dx, fs, rfl, ha, h⟩ := h
    obtain ⟨u, rfl, ru⟩ := r.one
    cases (show u = Value.ref a from ru)
    obtain ⟨ox, od, J, _⟩ := StX.insC_at I (.inr ⟨dx, fs, ha⟩)
    have hr2 : Room k X.A.in1.in1 := (show Room (k + 1) X.A.in1 from Room.in1 hr).in1
    refine PySem.W.kso_call (Nat.lt_of_le_of_lt (Nat.le_add_right _ 64) hr2.units) I.kIn J hs hf (wpAny_mono (runIn (us := [.ref a]) (vs := [.ref a]) F hr2 I.env0.in1.in1 I (.cons rfl .nil) (h σ)) (fun w s' z => ?_) fun _ _ y => y)
    obtain ⟨z', H', J', rz, b, ez, hq⟩ := z
    subst ez
    obtain ⟨t, e⟩ := (show ∃ t, w = Value.str b t from rz)
    subst e
    exact ⟨.str b, H', J', ⟨_, rfl⟩, hq⟩
  · unfold strI at h
    split at h
    · rename_i r
      cases rr with
      | cons hx hxs =>
        cases hxs
        split at h
        · rename_i hi
          have key : ∀ σ, Sat ct X.K noW G H L M σ (RepR X.K) (fun v H' => ∃ b, v = .str b ∧ Q (.str b) H') (argR fm r [] T S) := fun σ' => by
            split at h
            · rename_i b T' S' e
              rw [e]
              intro G1 H1 L1 M1 y x1 f1 r1
              cases (show Rep X.K G1 y (.str b) from r1)
              exact ⟨b, rfl, h _ _ _ _ _ x1 f1 (show Rep X.K _ _ _ from .str b)⟩
            · exact (show False from h).elim
          obtain ⟨a, dx, ws, rfl, hh, _⟩ := spI (n := 1) ft hi hx .nil rfl (key σ)
          refine ⟨a, dx, ws, rfl, hh, fun σ' => ?_⟩
          obtain ⟨a', _, _, e, _, hsp⟩ := spI (n := 1) ft hi hx .nil rfl (key σ')
          cases e
          exact hsp
        · exact (show False from h).elim
    · exact (show False from h).elim
end
end RB
end
/-! text RTryA -/
section
set_option Elab.async false
set_option linter.all false
set_option maxRecDepth 100000
set_option maxHeartbeats 4000000
/-! RTryA: several clauses 'except C as n', one behind the other. -/
namespace RB
open PySem PySem.Spec PyProof.Rows L2
end RB
end
/-! text RLam2 -/
section
set_option Elab.async false
set_option linter.all false
set_option maxRecDepth 100000
set_option maxHeartbeats 4000000
/-! RLam2: h(lambda: e), h hears two classes of exceptions. -/
namespace RB
open PySem PySem.Spec PyProof.Rows L2
/-- what is told of a class: the word, the class, its two fields -/
structure HdD where
  word : Str
  cls : Str
  f1 : Str
  f2 : Str
end RB
end
/-! text RSmS -/
section
set_option Elab.async false
set_option linter.all false
set_option maxRecDepth 100000
set_option maxHeartbeats 4000000
/-! RSmS: C.m(e, ..), m a static method with *rest. -/
namespace RB
open PySem PySem.Spec PyProof.Rows L2
end RB
end
/-! text RMkA -/
section
set_option Elab.async false
set_option linter.all false
set_option maxRecDepth 100000
set_option maxHeartbeats 4000000
/-! RMkA: C(e, ..), where some of the last parameters of __init__ are left out, or all; their defaults may be the empty tuple. -/
namespace RB
open PySem PySem.Spec PyProof.Rows L2
/-- a def that denotes f; its last parameters have these defaults, any number of which may be used -/
def DfiDA (P : Program) (w : World) (K : PySem.W.Frag) [WC K] (mg : Str → Option Value) (base : Heap) (ct : Str → Option Addr) (a : Addr) (lev n : Nat) (dfl : List D) (f : FM) : Prop :=
  ∃ fd ps, FnOk P w K mg base (L2.CX P w) lev a fd ps (spF ct K n f) ∧ Binds K fd ps [] ∧ ∀ j, j < dfl.length → ∃ (ds : List Value) (dvs : List V), Binds K fd ps ds ∧ Vals dvs ds ∧ ∀ G, Reps K G dvs (dfl.drop j)
section
variable {P : Program} {w : World} {K : PySem.W.Frag} [WC K] {mg : Str → Option Value} {base : Heap} {ct : Str → Option Addr} {a : Addr} {lev n : Nat} {dfl : List D} {f : FM}
theorem DfiDA.at_ (d : DfiDA P w K mg base ct a lev n dfl f) (j : Nat) (hj : j < dfl.length) {dl : List D} (e : dfl.drop j = dl) : DfiD P w K mg base ct a lev n dl f := by
  obtain ⟨fd, ps, F, b, h⟩ := d
  subst e
  exact ⟨fd, ps, F, b, h j hj⟩
end
/-! the empty tuple as a default: told by emD in RTop0 -/
end RB
end
/-! text RHeadD -/
section
set_option Elab.async false
set_option linter.all false
set_option maxRecDepth 100000
set_option maxHeartbeats 4000000
/-! RHeadD: defaults of methods that are the empty tuple. -/
namespace RB
open PySem PySem.Spec PyProof.Rows L2
end RB
end
/-! text RDispI -/
section
set_option Elab.async false
set_option linter.all false
set_option maxRecDepth 100000
set_option maxHeartbeats 4000000
/-! RDispI: [x, y, ..]: a written list of instances. -/
namespace RB
open PySem PySem.Spec PyProof.Rows L2
end RB
end
/-! text RSortD -/
section
set_option Elab.async false
set_option linter.all false
set_option maxRecDepth 100000
set_option maxHeartbeats 4000000
/-! RSortD: sorted(d), d an own dict whose keys are texts. -/
namespace RB
open PySem PySem.Spec PyProof.Rows L2
end RB
end
/-! text RTryN -/
section
set_option Elab.async false
set_option linter.all false
set_option maxRecDepth 100000
set_option maxHeartbeats 4000000
/-! RTryN: try: .. except C as e: .., where the body is shown to raise nothing (the suite is never run). -/
namespace RB
open PySem PySem.Spec PyProof.Rows L2
end RB
end
/-! text RRev -/
section
set_option Elab.async false
set_option linter.all false
set_option maxRecDepth 100000
set_option maxHeartbeats 4000000
/-! RRev: for x in reversed(xs), xs a list or a tuple. -/
namespace RB
open PySem PySem.Spec PyProof.Rows L2
end RB
end
/-! text RKw0 -/
section
set_option Elab.async false
set_option linter.all false
set_option maxRecDepth 100000
set_option maxHeartbeats 4000000
/-! RKw0: x(k = v, ..) with names alone; C(.., k = v, ..), o(k = v, ..), o.m(.., k = v, ..). -/
namespace RB
open PySem PySem.Spec PyProof.Rows L2
end RB
end
/-! text RKwI -/
section
set_option Elab.async false
set_option linter.all false
set_option maxRecDepth 100000
set_option maxHeartbeats 4000000
/-! RKwI: C(.., k = v, ..), o(k = v, ..), o.m(.., k = v, ..), C.m(k = v, ..). -/
namespace RB
open PySem PySem.Spec PyProof.Rows L2
theorem pick_self {α : Type} (x : α) (l : List α) (π : List Nat) : pick (0 :: π.map (· + 1)) (x :: l) = x :: pick π l := by
  unfold pick
  rw [List.filterMap_cons_some (by rfl : (x :: l)[0]? = some x), List.filterMap_map]
  rfl
/-- a method that is called by names: np plain ones behind self, then these; where each parameter's value stands -/
def DfiW (P : Program) (w : World) (K : PySem.W.Frag) [WC K] (mg : Str → Option Value) (base : Heap) (ct : Str → Option Addr) (a : Addr) (lev n np : Nat) (ks : List Str) (π : List Nat) (f : FM) : Prop :=
  ∃ fd ps, FnOk P w K mg base (L2.CX P w) lev a fd ps (spF ct K (n + 1) f) ∧ ∃ g, KBn K fd ps (np + 1) ks g (fun vs zs => pick (0 :: π.map (· + 1)) (vs ++ zs))
section
variable {X : Cx} {k np : Nat} {f C : Addr} {fd : FuncData} {ps ks : List Str} {sp : Sp} {E : XK} {pins : List (Addr × Obj)} {σ : L2.St} {H : Hp} {s : Shared} {Q : VK} {us ws : List Value} {vs zs : List V} {g : List Value → List Value → List Value} {gV : List V → List V → List V}
theorem runAtK (F : FnOk X.prog X.w X.K X.mg X.base (L2.CX X.prog X.w) k f fd ps sp) (hb : KBn X.K fd ps np ks g gV) (hr : Room k X.A) (hx : PassesAt (L2.CX X.prog X.w) X σ E) (I : Inv X pins σ H s) (r : Vals vs us) (rz : Vals zs ws) (l1 : vs.length = np) (l2 : zs.length = ks.length) (h : sp (gV vs zs) H Q E) :
    codeAny (model X.prog X.w) X.A (.call (.ref f) ⟨us, ks.zip ws⟩) (fun z s' => match z with
      | .ok (.ret v) => EP X pins σ Q v s'
      | .ok _ => False
      | .error e => X.xe e s') s := by
  have r2 := hb.rel r rz
  refine codeAny_mono (F.run X.A X.stack s H ⟨us, ks.zip ws⟩ (g us ws) (gV vs zs) Q E hr I.env0 (hb.to s us ws I.kIn (r.length.symm.trans l1) (rz.length.symm.trans l2)) r2 h) fun z s' hz => ?_
  match z, hz with
  | .error e, hz => exact hx pins H s e s' I hz
  | .ok (.ret u), hz => exact I.after hz
theorem runMkK (M : Mk X.K C f) (F : FnOk X.prog X.w X.K X.mg X.base (L2.CX X.prog X.w) k f fd ps sp) (hb : KBn X.K fd ps (np + 1) ks g gV) (hr : Room (k + 1) X.A) (hx : PassesAt (L2.CX X.prog X.w) X σ E) (I : Inv X pins σ H s) (r : Vals vs us) (rz : Vals zs ws) (l1 : vs.length = np) (l2 : zs.length = ks.length)
    (h : ∀ x dx, H x = none → H dx = none → dx ≠ x → sp (gV (.ref x :: vs) zs) (upd (upd H dx (.own x)) x (.ins C dx [])) (fun v H2 => v = .non ∧ Q (.ref x) H2) E) :
    wpAny (model X.prog X.w) X.A (call (.ref C) us (ks.zip ws)) (EP X pins σ Q) X.xe s := by
  have hq := h (s.heap.objs.size + 1) s.heap.objs.size (I.hok.fresh (Nat.le_succ _)) (I.hok.fresh (Nat.le_refl _)) (Nat.ne_of_lt (Nat.lt_succ_self _))
  have I2 := Inv.made (C := C) I
  have r1 : Vals (V.ref (s.heap.objs.size + 1) :: vs) (Value.ref (s.heap.objs.size + 1) :: us) := .cons rfl r
  have r2 := hb.rel r1 rz
  have e1 : (Value.ref (s.heap.objs.size + 1) :: us).length = np + 1 := r1.length.symm.trans (congrArg Nat.succ l1)
  have e2 : ws.length = ks.length := rz.length.symm.trans l2
  refine wpAny_call (make_map (f := f) I.kIn M.makes M.init (beq_iff_eq.mp M.fn) (codeAny_mono (F.run _ X.stack _ _ ⟨Value.ref (s.heap.objs.size + 1) :: us, ks.zip ws⟩ (g (Value.ref (s.heap.objs.size + 1) :: us) ws) _ _ E (hr.make C us (ks.zip ws))
    (I2.env0.make C us (ks.zip ws)) (hb.to _ (Value.ref (s.heap.objs.size + 1) :: us) ws I2.kIn e1 e2) r2 hq) fun r s' hq' => ?_))
  cases r with
  | error e => exact hx pins _ _ e s' I2 hq'
  | ok fl =>
    cases fl with
    | ret u =>
      obtain ⟨v, H', I3, rv, ev, q3⟩ := I2.after hq'
      subst ev
      exact ⟨rv, ⟨V.ref (s.heap.objs.size + 1), H', I3, rfl, q3⟩⟩
    | next => exact False.elim hq'
    | brk => exact False.elim hq'
    | cont => exact False.elim hq'
end
section
variable {ct : Str → Option Addr} {X : Cx} [WC X.K] {W : WX} {pos apos p : Pos} {e o : Expr} {es : List Expr} {mo : EM Rv} {ms mz : EM (List Rv)} {cls : Str} {k n np : Nat} {f : Addr} {fm : FM} {kws : List Keyword}
/-- C(k = v, ..) -/
theorem se_makeW0 (ks : List Str) (π : List Nat) (M : Mk X.K (He.ga X.K cls) f) (F : DfiW X.prog X.w X.K X.mg X.base ct f k n 0 ks π fm) (hπ : π.all (fun i => decide (i < ks.length)) = true) (hπn : π.length = n) (hr : Room (k + 1) X.A) (tk : Takes X W) (hg : Gl X cls) (hm : X.mg cls = some (.ref (He.ga X.K cls))) (hz : SK ct X W kws ks.length mz) (hdb : (cls == ("__debug__" : Str)) = false)
    (hall : (backToKw pos (keywordEach kws X.env)).all (·.1.isSome) = true) (hks : (backToKw pos (keywordEach kws X.env)).filterMap (·.1) = ks)
    (hpl : ((backTo pos (starEach [] X.env)).any (·.1) || (backToKw pos (keywordEach kws X.env)).any (·.1.isNone)) = false) :
    SE ct X W (.Call (.Name cls p) [] kws pos) (callM (makeR cls fm) (permA π mz)) := by
  obtain ⟨fd, ps, F, g, hb⟩ := F
  obtain ⟨⟨t2, pk, qk⟩, hn2⟩ := hz
  have hpi : ∀ i ∈ π, i < ks.length := fun i hi => of_decide_eq_true (List.all_eq_true.mp hπ i hi)
  refine ⟨fun σ H Q => t2 σ H fun zs H2 => zs.length = ks.length ∧ ∀ x dx, H2 x = none → H2 dx = none → dx ≠ x → spF ct X.K (n + 1) fm (.ref x :: pick π zs) (upd (upd H2 dx (.own x)) x (.ins (He.ga X.K cls) dx [])) (fun v H3 => v = .non ∧ Q (.ref x) H3) (WE W σ),
    ⟨fun pins s σ H Q I h => ?_⟩, fun ρ T S G H L M' σ Q hl ft sl h => ?_⟩
  · refine wpAny_Call_Name_kw (ld_glob I hg hm ?_ hdb)
    refine PySem.W.callWith_KW0 (h₀ := X.base) I.ok.mod.kin M.kp hall ?_ hpl
    refine thn (pk.run pos pins s σ H _ I h) fun ws s2 ⟨zs, H2, I2, rz, l2, q2⟩ => ⟨I2.kIn, ?_⟩
    rw [hks]
    exact runMkK (us := []) (vs := []) M F hb hr (passAt tk σ) I2 .nil rz rfl l2 fun x dx h1 h2 h3 => by
      have := q2 x dx h1 h2 h3
      rw [← pick_self] at this
      exact this
  · unfold callM permA at h
    cases e2 : mz ρ T S with
    | bad => rw [e2] at h; exact (show False from h).elim
    | exn z T2 S2 =>
      rw [e2] at h
      refine qk ρ T S G H L M' σ _ hl ft sl ?_
      rw [e2]
      exact h
    | ok zs T2 S2 =>
      rw [e2] at h
      refine qk ρ T S G H L M' σ _ hl ft sl ?_
      rw [e2]
      intro G2 H2 L2 M2 ys x2 f2 r2
      have hl2 := hn2 ρ T S zs _ _ e2
      refine ⟨by rw [r2.length]; exact hl2, makeR_ok ?_ f2 (reprs_pick r2 π) (Sat.pre x2 h)⟩
      rw [pick_len, hπn]
      rw [hl2]
      exact hpi
end
end RB
end
/-! text RExcI -/
section
set_option Elab.async false
set_option linter.all false
set_option maxRecDepth 100000
set_option maxHeartbeats 4000000
/-! RExcI: isinstance(e, C), e a caught error of the program with its own fields. -/
namespace RB
open PySem PySem.Spec PyProof.Rows L2
open PySem.W (InstAt)
open PySem.Calls
section
variable {K : PySem.W.Frag} {prog : Program} {w : World} {A : Around} {E : Value → Shared → Prop} {s : Shared} {x D : Addr} {ox : Obj} {od : Option Obj}
theorem cls_found (c : ExcC K D) : PySem.W.findObj K D od "__class__" = some (.bind (.builtin "getset_descriptor.__get__") (.builtin "object.__class__")) := by
  obtain ⟨q1, q2, _⟩ := PySem.W.any_some c.hd
  have q3 : (PySem.W.clsIn K D).isSome = true := by rw [q2]; rfl
  obtain ⟨q4, q5⟩ := Option.isSome_iff_exists.mp q3
  unfold PySem.W.findObj
  rw [q5, Option.bind_some, c.ha, Option.bind_some]
  simp [c.hn, c.ht]
theorem exc_class {Q : Option Value → Shared → Prop} (c : ExcC K D) (hK : K.In s.heap) (J : InstAt s.heap x ox D od) (q : Q (some (.ref D)) { s with toks := s.toks + 1 }) :
    wpAny (model prog w) A (getAttr? (.ref x) "__class__") Q E s := by
  obtain ⟨hp, gg, dr, tk, oo⟩ := s
  have T0 := J.type (M := model prog w)
  have T1 := PySem.W.looks_findIn (M := model prog w) hK c.hg
  have T2 := PySem.W.looks_findIn (M := model prog w) hK c.hk
  have T3 := PySem.W.looks_find (M := model prog w) hK J (cls_found (od := od) c)
  have up : PySem.W.Looks (model prog w) hp (isInstance (.ref x) (.type "BaseException")) true := T0.andThen (PySem.W.looks_subIn hK c.hs)
  have no0 : (Value.builtin "BaseException.__getattribute__" == Value.builtin "object.__getattribute__") = false := by decide +kernel
  have no1 : (onTheHeap (Value.ref D) && Value.builtin "BaseException.__getattribute__" == Value.builtin "object.__getattribute__") = false := by
    rw [no0]
    rfl
  have no2 : (false && onTheHeap (Value.builtin "BaseException.__getattribute__")) = false := rfl
  unfold getAttr? getAttrBy? getAttrBy
  refine wpAny_bind (wpAny_mkText (wpAny_bind (wpAny_attempt
    (wpAny_holding (wpAny_bind (T0.at (wpAny_bind (T1.at ?_))))))))
  show wpAny _ _ (ite ((onTheHeap (Value.ref D) && Value.builtin "BaseException.__getattribute__" == Value.builtin "object.__getattribute__") = true) _ _) _ _ _
  rw [no1, if_neg Bool.false_ne_true]
  unfold getAttrByItsOwn hookBefore
  refine wpAny_bind ?_
  rw [if_pos (by rfl : onTheHeap (Value.ref D) = true)]
  refine T2.at ?_
  refine wpAny_bind (wpAny_attempt
    (wpAny_holding ?_))
  unfold callGetattribute
  rw [no2, if_neg Bool.false_ne_true]
  unfold boundAndCalled
  rw [PySem.F.excAttr_ValueError.ga.bind
    (.ref x)]
  refine wpAny_bind (wpAny_pure ?_)
  show wpAny _ _ (call (.builtin "BaseException.__getattribute__") [.ref x, .str "__class__" tk]) _ _ _
  refine wpAny_call (codeAny_call_builtin
    PySem.F.excAttr_ValueError.ga.plain PySem.F.entry_bexc_ga ?_)
  refine @PySem.W.check_slot (model prog w) _ _ ⟨hp, gg, dr, tk + 1, oo⟩ "BaseException.__getattribute__" "BaseException" "__getattribute__" (.ref x) [.str "__class__" tk] [] _
    (by decide +kernel) (by decide +kernel) up (PySem.F.args_bexc_ga (.ref x) (.str "__class__" tk)) ?_
  unfold Builtin.«object.__getattribute__»
  refine wpAny_bind (wpAny_of_eq (a := ((Value.ref x : Value), [Value.str "__class__" tk]))
    (by first | rfl | (simp only [slotArgs]; rfl)) ?_)
  refine wpAny_bind (wpAny_pure (wpAny_bind
    (T0.at (wpAny_bind (T3.at ?_)))))
  show wpAny _ _ (holding [Value.builtin "object.__class__"] (call (.builtin "getset_descriptor.__get__") [.builtin "object.__class__", .ref x, .ref D]) >>= ret) _ _ _
  refine wpAny_bind (wpAny_holding (wpAny_call
    (PySem.W.class_get (s := ⟨hp, gg, dr, tk + 1, oo⟩) (ox := ox) (od := od) hK J c.hm ?_)))
  refine wpAny_pure ?_
  show wpAny _ _ (handedOut (.ref D)) _ _ _
  rw [PySem.W.handedOut_of (v := .ref D) (by rfl)]
  first
    | exact wpAny_pure (wpAny_pure q)
    | exact wpAny_pure q
    | exact wpAny_pure (wpAny_bind (wpAny_pure (wpAny_pure q)))
theorem kitx_err (c : ExcC K D) : PySem.W.KitX K (.ref x) (.ref D) (fun h => InstAt h x ox D od) where
  ty := fun _ _ _ J => J.type
  it := fun _ _ hK _ => by
    obtain ⟨q1, q2, _⟩ := PySem.W.any_some c.hd
    unfold PySem.W.clsIn at q2
    split at q2
    · rename_i c1 d1 cd1 sl1 e1
      intro A2 Q2 E2 s2 k2 r2
      unfold isType loadHead
      exact wpAny_bind (wpAny_loadPart (k2 _ _ (hK _ _ e1)) (wpAny_pure r2))
    · cases q2
  ne := fun h tp d2 its n sl hK e2 => by
    obtain ⟨q1, q2, _⟩ := PySem.W.any_some c.hd
    refine Bool.eq_false_iff.mpr fun z => ?_
    have z2 : D = tp := Value.ref.inj (beq_iff_eq.mp z)
    rw [← z2] at e2
    unfold PySem.W.clsIn at q2
    split at q2
    · rename_i c1 d1 cd1 sl1 e1
      have := (hK _ _ e1).symm.trans e2
      cases this
    · cases q2
  ca := fun hK J q => exc_class c hK J q
end
/-- isinstance(e, c), e the error that the suite holds, with its fields -/
def rIsD (K : PySem.W.Frag) (D a : Addr) (d : Option Addr) : List V → Hp → VK → Prop := fun xs H Q => ∃ (c : V) (u : Value) (b : Bool) (dd : Addr) (fs : List (Str × V)), xs = [.ref a, c] ∧ ClsV c u ∧ d = some dd ∧ H dd = some (.xd fs) ∧ PySem.W.kitOne K (.ref D) u = some b ∧ Q (.bl b) H
theorem call_isD {X : Cx} {a D : Addr} {oe : Obj} {d : Option Addr} {pn : List (Addr × Obj)} (c : ExcC X.K D) (hz : Zc (.ref D) d oe) (hf : ∃ vs, oe.data = .fields vs) : CallR (X.suite a ((a, oe) :: pn)) (.builtin "isinstance") (rIsD X.K D a d) := by
  intro pins s σ H xs us Q I r h
  obtain ⟨cv, u, b, dd, fs, rfl, k, ed, ea, e, q⟩ := h
  obtain ⟨u1, u2, rfl, r1, r2⟩ := vals2 r
  have e2 := k.eq r2
  subst e2
  obtain rfl : u1 = Value.ref a := r1
  obtain ⟨ha, _⟩ := I.pin (a, oe) (List.mem_append_left _ List.mem_cons_self)
  obtain ⟨vs, hd⟩ := hf
  have hx : ObjOk X.prog X.w H s.heap dd (.xd fs) := I.hok dd _ ea
  obtain ⟨mA, hns, hr⟩ := hx
  obtain ⟨od, ho, hl⟩ := lookIn_ns hns
  have J : InstAt s.heap a oe D (some od) := ⟨ha, hz.1, by unfold PySem.W.notCls; rw [hd] <;> rfl, by rw [hz.2, ed]; exact ho⟩
  exact PySem.W.kia_one (kitx_err c) I.kIn J e (fun z => nomatch z) fun tk => ⟨.bl b, H, I.tok tk, rfl, q⟩
end RB
end
/-! text RTryG -/
section
set_option Elab.async false
set_option linter.all false
set_option maxRecDepth 100000
set_option maxHeartbeats 4000000
/-! RTryG: except C as e: any suite that raises nothing; e is asked for its fields and its class. -/
namespace RB
open PySem PySem.Spec PyProof.Rows L2
abbrev NoX : WX := fun _ _ _ _ => False
section
variable (K : PySem.W.Frag) [WC K] (xi : Hp → Hp → L2.St → Prop)
def SatSX (G H : Hp) (L M : List Addr) (E : Ends) : Out → Prop
  | .next ρ' T' S' => ∀ G' H' L' M' σ', Ext G H L M G' H' L' M' → Fits K G' H' L' M' T' S' → Sl K G' L' M' ρ' σ' → xi G' H' σ' → E.nx σ' H'
  | .ret r T' S' => ∀ G' H' L' M' x, Ext G H L M G' H' L' M' → Fits K G' H' L' M' T' S' → RepR K G' L' M' x r → E.rt x H'
  | _ => False
end
section
variable {ct : Str → Option Addr} {K : PySem.W.Frag} [WC K] {xi : Hp → Hp → L2.St → Prop} {G H G1 H1 : Hp} {L M L1 M1 : List Addr} {E : Ends}
theorem SatSX.pre {o : Out} (e : Ext G H L M G1 H1 L1 M1) (h : SatSX K xi G H L M E o) : SatSX K xi G1 H1 L1 M1 E o := by
  cases o with
  | next ρ T S => exact fun G' H' L' M' s e' f q => h G' H' L' M' s (e.trans e') f q
  | ret r T S => exact fun G' H' L' M' s e' f q => h G' H' L' M' s (e.trans e') f q
  | brk ρ T S => exact h
  | cnt ρ T S => exact h
  | exn x ρ T S => exact h
  | bad => exact h
theorem SatSX.of {α β : Type} {rel : Hp → List Addr → List Addr → β → α → Prop} {ρ : Vn} {σ : L2.St} {Q : β → Hp → Prop} {r : Res α} {k : α → Sto → Sto → Out} (h : SatSX K xi G H L M E (r.out ρ k))
    (hk : ∀ a T' S' G' H' L' M' y, Ext G H L M G' H' L' M' → Fits K G' H' L' M' T' S' → rel G' L' M' y a → SatSX K xi G' H' L' M' E (k a T' S') → Q y H') : Sat ct K NoX G H L M σ rel Q r := by
  cases r with
  | ok a T S => exact fun G' H' L' M' y e f q => hk a T S G' H' L' M' y e f q (SatSX.pre e h)
  | exn x T S => exact (show False from h).elim
  | bad => exact h
end
section
variable (ct : Str → Option Addr) (X : Cx) [WC X.K] (i : Nat) (a : Addr) (cls : Value) (d : Option Addr) (C : Addr) (f1 f2 : Str)
def STx (e : Expr) (m : D → D → EM Bool) : Prop :=
  ∃ t, PT X e t ∧ ∀ (d1 d2 : D) (ρ : Vn) (T S : Sto) (G H : Hp) (L M : List Addr) (σ : L2.St) (Q : Bool → Hp → Prop), XI X.K i a cls d C f1 f2 d1 d2 G H σ → ρ.length = σ.length → Fits X.K G H L M T S → Slots X.K G L M ρ σ → Sat ct X.K NoX G H L M σ relB Q (m d1 d2 ρ T S) → t σ H Q
def SWx (e : Expr) (m : D → D → EM Bool) : Prop :=
  ∃ t, PW X e t ∧ ∀ (d1 d2 : D) (ρ : Vn) (T S : Sto) (G H : Hp) (L M : List Addr) (σ : L2.St) (Q : Bool → Hp → Prop), XI X.K i a cls d C f1 f2 d1 d2 G H σ → ρ.length = σ.length → Fits X.K G H L M T S → Slots X.K G L M ρ σ → Sat ct X.K NoX G H L M σ relB Q (m d1 d2 ρ T S) → t σ H Q
end
def SSx (_ct : Str → Option Addr) (X : Cx) [WC X.K] (i : Nat) (a : Addr) (cls : Value) (d : Option Addr) (C : Addr) (f1 f2 : Str) (st : Stmt) (m : D → D → SM) : Prop :=
  ∃ t, PS X st t ∧ ∀ (d1 d2 : D) (ρ : Vn) (T S : Sto) (G H : Hp) (L M : List Addr) (σ : L2.St) (E : Ends), XI X.K i a cls d C f1 f2 d1 d2 G H σ → Fits X.K G H L M T S → Sl X.K G L M ρ σ → SatSX X.K (XI X.K i a cls d C f1 f2 d1 d2) G H L M E (m d1 d2 ρ T S) → t E σ H
def SSxs (_ct : Str → Option Addr) (X : Cx) [WC X.K] (i : Nat) (a : Addr) (cls : Value) (d : Option Addr) (C : Addr) (f1 f2 : Str) (st : List Stmt) (m : D → D → SM) : Prop :=
  ∃ t, PSs X st t ∧ ∀ (d1 d2 : D) (ρ : Vn) (T S : Sto) (G H : Hp) (L M : List Addr) (σ : L2.St) (E : Ends), XI X.K i a cls d C f1 f2 d1 d2 G H σ → Fits X.K G H L M T S → Sl X.K G L M ρ σ → SatSX X.K (XI X.K i a cls d C f1 f2 d1 d2) G H L M E (m d1 d2 ρ T S) → t E σ H
section
variable {ct : Str → Option Addr} {X : Cx} [WC X.K] {i : Nat} {a : Addr} {cls : Value} {d : Option Addr} {C : Addr} {f1 f2 : Str} {e e1 e2 o : Expr} {es rest : List Expr} {pos : Pos} {ma mo : D → D → EM Rv} {ms : D → D → EM (List Rv)} {mt mt2 : D → D → EM Bool} {s u : D → D → SM} {st : Stmt} {sts : List Stmt}
theorem sex_own (h : SAx ct X NoX i a cls d C f1 f2 es ms) : SEx ct X NoX i a cls d C f1 f2 (.List es pos) (fun d1 d2 => ownM (ms d1 d2)) := by
  obtain ⟨t, p, q⟩ := h
  refine ⟨tLst t, pe_lst p, fun d1 d2 ρ T S G H L M σ Q xi hl f sl h => ?_⟩
  refine q d1 d2 ρ T S G H L M σ _ xi hl f sl (Sat.bind h fun rs T1 S1 G1 H1 L1 M1 xs e1 f1 r1 h1 => ?_)
  split at h1
  · rename_i ds T' e
    split at h1
    · rename_i hz
      obtain ⟨G2, e2, f2, r2⟩ := toDs_ok f1 r1 e
      exact ⟨by rw [r2.length]; exact line_le hz, fun p hp => sat_own f2 (Sat.pre e2 h1) r2 hp⟩
    · exact (show False from h1).elim
  · exact (show False from h1).elim
theorem sex_append {apos cpos : Pos} (ho : SEx ct X NoX i a cls d C f1 f2 o mo) (ha : SAx ct X NoX i a cls d C f1 f2 (e :: es) ms)
    (hbase : attributeBase o "append" X.env (eval o X.env) = eval o X.env)
    (hfew : ((backTo cpos (starEach (e :: es) X.env)).all (fun x => !x.1) && (backToKw cpos (keywordEach [] X.env)).all (fun x => x.1.isSome) && decide ((e :: es).length + ([] : List Keyword).length + (if ([] : List Keyword).isEmpty then 0 else 1) < 30)) = true)
    (hline : (apos.endLine == cpos.line) = true) (hs : starEach (e :: es) X.env = (false, eval e X.env) :: starEach es X.env) (hplain : (backTo cpos (starEach es X.env)).any (·.1) = false) :
    SEx ct X NoX i a cls d C f1 f2 (.Call (.Attribute o "append" apos) (e :: es) [] cpos) (fun d1 d2 => methM isL appendR (mo d1 d2) (ms d1 d2)) := by
  obtain ⟨t, p, q⟩ := ho
  obtain ⟨ta, pa, qa⟩ := ha
  refine ⟨_, pe_bm PySem.F.plainAttrs_list PySem.F.slot_list_append PySem.F.type_list_append mt_append p pa hbase hfew hline hs hplain, fun d1 d2 ρ T S G H L M σ Q xi hl f sl h => ?_⟩
  refine q d1 d2 ρ T S G H L M σ _ xi hl f sl (Sat.bind h fun r T1 S1 G1 H1 L1 M1 x e1 f1 r1 h1 => ?_)
  split at h1
  · rename_i hty
    refine ⟨isL_ty f1 r1 hty, qa d1 d2 ρ T1 S1 G1 H1 L1 M1 σ _ (xi.mono f e1 f1) hl f1 (sl.mono e1) (Sat.bind h1 fun rs T2 S2 G2 H2 L2 M2 xs e2 f2 r2 h2 => ?_)⟩
    unfold appendR at h2
    split at h2
    · rename_i n y
      split at h2
      · rename_i d T' ed
        split at h2
        · rename_i zs et
          split at h2
          · rename_i hz
            obtain ⟨v, rfl, rv⟩ := rs1 r2
            obtain ⟨G3, x3, f3, r3⟩ := toD_ok f2 rv ed
            obtain ⟨a, ha, rfl⟩ := r1.mono e2
            obtain ⟨vs, b1, b2, b3⟩ := f3.obM n a _ ha et
            obtain ⟨x4, f4⟩ := f3.setM (u := .lst (vs ++ [v])) (o := .lst (zs ++ [d])) ha b2 ⟨_, upd_same, b2, b3.append (.cons r3 .nil)⟩ (fun _ z => by cases z)
            exact ⟨a, vs, v, rfl, rfl, b1, by rw [b3.length]; exact lt_line hz, h2 _ _ _ _ _ (x3.trans x4) f4 (show Rep X.K _ _ _ from .non)⟩
          · exact (show False from h2).elim
        · exact (show False from h2).elim
      · exact (show False from h2).elim
    · rename_i n y
      split at h2
      · rename_i d T' ed
        split at h2
        · rename_i zs et
          split at h2
          · rename_i hz
            obtain ⟨v, rfl, rv⟩ := rs1 r2
            obtain ⟨G3, x3, f3, r3⟩ := toD_ok f2 rv ed
            obtain ⟨a, ha, rfl⟩ := r1.mono e2
            obtain ⟨vs, b1, b2, b3⟩ := f3.obL n a _ ha et
            obtain ⟨x4, f4⟩ := f3.setL (u := .lst (vs ++ [v])) (o := .lst (zs ++ [d])) ha b2 ⟨_, upd_same, b2, b3.append (.cons r3 .nil)⟩ (fun _ z => by cases z)
            exact ⟨a, vs, v, rfl, rfl, b1, by rw [b3.length]; exact lt_line hz, h2 _ _ _ _ _ (x3.trans x4) f4 (show Rep X.K _ _ _ from .non)⟩
          · exact (show False from h2).elim
        · exact (show False from h2).elim
      · exact (show False from h2).elim
    · exact (show False from h2).elim
  · exact (show False from h1).elim
theorem stx_val (h : SEx ct X NoX i a cls d C f1 f2 e ma) (he : ∀ whole, isTrue e X.env whole = (do let v ← whole; standAt e.pos; holding [v] (truthy v))) : STx ct X i a cls d C f1 f2 e (fun d1 d2 => asB (ma d1 d2)) := by
  obtain ⟨t, p, q⟩ := h
  refine ⟨tB t, pt_val p he, fun d1 d2 ρ T S G H L M σ Q xi hl f sl h => ?_⟩
  refine q d1 d2 ρ T S G H L M σ _ xi hl f sl (Sat.bind h fun r T1 S1 G1 H1 L1 M1 x e1 f1 r1 h1 => ?_)
  cases r with
  | v d =>
    cases d with
    | bool b =>
      cases (show Rep X.K G1 x (.bool b) from r1)
      exact ⟨b, rfl, h1 G1 H1 L1 M1 b (Ext.refl _ _ _ _) f1 rfl⟩
    | _ => exact (show False from h1).elim
  | _ => exact (show False from h1).elim
theorem stx_cmp {op : CmpOp} {oo : Rv → Rv → Sto → Sto → Res Rv} {mb : D → D → EM Rv} (ho : OpS ct X NoX (compareOp op) oo) (ha : SEx ct X NoX i a cls d C f1 f2 e1 ma) (hb : SEx ct X NoX i a cls d C f1 f2 e2 mb) (hm : behindInMarks op e2 = false) : STx ct X i a cls d C f1 f2 (.Compare e1 [op] [e2] pos) (fun d1 d2 => asB (bin oo (ma d1 d2) (mb d1 d2))) := by
  obtain ⟨ta, pa, qa⟩ := ha
  obtain ⟨tb, pb, qb⟩ := hb
  obtain ⟨r, po, qo⟩ := ho
  refine ⟨tB (tOp r ta tb), pt_cmpR po pa pb hm, fun d1 d2 ρ T S G H L M σ Q xi hl f sl h => ?_⟩
  refine qa d1 d2 ρ T S G H L M σ _ xi hl f sl (Sat.bind (Sat.bind (rel := RepR X.K) (Q1 := fun x H' => ∃ b, x = .bl b ∧ Q b H') h fun r T1 S1 G1 H1 L1 M1 x e1 f1 r1 h1 => ?_) fun va T1 S1 G1 H1 L1 M1 x e1 f1 r1 h1 => ?_)
  · cases r with
    | v d =>
      cases d with
      | bool b =>
        cases (show Rep X.K G1 x (.bool b) from r1)
        exact ⟨b, rfl, h1 G1 H1 L1 M1 b (Ext.refl _ _ _ _) f1 rfl⟩
      | _ => exact (show False from h1).elim
    | _ => exact (show False from h1).elim
  · refine qb d1 d2 ρ T1 S1 G1 H1 L1 M1 σ _ (xi.mono f e1 f1) hl f1 (sl.mono e1) (Sat.bind h1 fun vb T2 S2 G2 H2 L2 M2 y e2 f2 r2 h2 => ?_)
    exact qo x y va vb T2 S2 G2 H2 L2 M2 σ _ f2 (r1.mono e2) r2 h2
theorem stx_not (h : STx ct X i a cls d C f1 f2 e mt) : STx ct X i a cls d C f1 f2 (.UnaryOp .Not e pos) (fun d1 d2 => notM (mt d1 d2)) := by
  obtain ⟨t, p, q⟩ := h
  refine ⟨tNot t, pt_not p, fun d1 d2 ρ T S G H L M σ Q xi hl f sl h => ?_⟩
  refine q d1 d2 ρ T S G H L M σ _ xi hl f sl (Sat.bind h fun r T1 S1 G1 H1 L1 M1 x e1 f1 r1 h1 => ?_)
  cases r1
  exact h1 G1 H1 L1 M1 _ (Ext.refl _ _ _ _) f1 rfl
theorem swx_and1 (h : STx ct X i a cls d C f1 f2 e mt) : SWx ct X i a cls d C f1 f2 (.BoolOp .And [e] pos) mt := by
  obtain ⟨t, p, q⟩ := h
  exact ⟨t, pw_and1 p, q⟩
theorem swx_and (h : STx ct X i a cls d C f1 f2 e mt) (h2 : SWx ct X i a cls d C f1 f2 (.BoolOp .And (e2 :: rest) pos) mt2) : SWx ct X i a cls d C f1 f2 (.BoolOp .And (e :: e2 :: rest) pos) (fun d1 d2 => andM (mt d1 d2) (mt2 d1 d2)) := by
  obtain ⟨t, p, q⟩ := h
  obtain ⟨t2, p2, q2⟩ := h2
  refine ⟨tAnd t t2, pw_and p p2, fun d1 d2 ρ T S G H L M σ Q xi hl f sl h => ?_⟩
  refine q d1 d2 ρ T S G H L M σ _ xi hl f sl (Sat.bind h fun r T1 S1 G1 H1 L1 M1 x e1 f1 r1 h1 => ?_)
  cases r1
  cases r with
  | true => exact q2 d1 d2 ρ T1 S1 G1 H1 L1 M1 σ Q (xi.mono f e1 f1) hl f1 (sl.mono e1) h1
  | false => exact h1 G1 H1 L1 M1 _ (Ext.refl _ _ _ _) f1 rfl
theorem stx_w (h : SWx ct X i a cls d C f1 f2 e mt) : STx ct X i a cls d C f1 f2 e mt := by
  obtain ⟨t, p, q⟩ := h
  exact ⟨t, p.pt, q⟩
/-! ### statements -/
theorem ssxs_nil : SSxs ct X i a cls d C f1 f2 [] (fun _ _ => skipS) := ⟨tNext, pss_nil, fun d1 d2 ρ T S G H L M σ E xi f sl h => h G H L M σ (Ext.refl _ _ _ _) f sl xi⟩
theorem ssxs_one (h : SSx ct X i a cls d C f1 f2 st s) : SSxs ct X i a cls d C f1 f2 [st] s := by
  obtain ⟨t, p, q⟩ := h
  exact ⟨t, pss_one p, q⟩
theorem ssxs_cons (h : SSx ct X i a cls d C f1 f2 st s) (h2 : SSxs ct X i a cls d C f1 f2 sts u) : SSxs ct X i a cls d C f1 f2 (st :: sts) (fun d1 d2 => seqS (s d1 d2) (u d1 d2)) := by
  obtain ⟨t, p, q⟩ := h
  obtain ⟨t2, p2, q2⟩ := h2
  refine ⟨tSeq t t2, pss_cons p p2, fun d1 d2 ρ T S G H L M σ E xi f sl h => ?_⟩
  refine q d1 d2 ρ T S G H L M σ _ xi f sl ?_
  have h : SatSX X.K (XI X.K i a cls d C f1 f2 d1 d2) G H L M E ((s d1 d2 ρ T S).thn (u d1 d2)) := h
  cases e : s d1 d2 ρ T S with
  | next ρ1 T1 S1 =>
    rw [e] at h
    exact fun G' H' L' M' σ' x f' sl' xi' => q2 d1 d2 ρ1 T1 S1 G' H' L' M' σ' E xi' f' sl' (SatSX.pre x h)
  | ret r T1 S1 => rw [e] at h; exact h
  | brk ρ1 T1 S1 => rw [e] at h; exact (show False from h).elim
  | cnt ρ1 T1 S1 => rw [e] at h; exact (show False from h).elim
  | exn x ρ1 T1 S1 => rw [e] at h; exact (show False from h).elim
  | bad => rw [e] at h; exact (show False from h).elim
theorem ssx_expr (h : SEx ct X NoX i a cls d C f1 f2 e ma) (hs : swapsWith e none pos.line X.env = pure false) : SSx ct X i a cls d C f1 f2 (.Expr e pos) (fun d1 d2 => dropS (ma d1 d2)) := by
  obtain ⟨t, p, q⟩ := h
  refine ⟨tDrop t, ps_expr p hs, fun d1 d2 ρ T S G H L M σ E xi f sl h => ?_⟩
  exact q d1 d2 ρ T S G H L M σ _ xi sl.1 f sl.2 (SatSX.of h fun r T1 S1 G1 H1 L1 M1 x e1 f1 r1 h1 => h1 G1 H1 L1 M1 σ (Ext.refl _ _ _ _) f1 ⟨sl.1, sl.2.mono e1⟩ (xi.mono f e1 f1))
theorem XI.set {K : PySem.W.Frag} [WC K] {G H : Hp} {d1 d2 : D} {σ : L2.St} {j : Nat} {v : Option V} (h : XI K i a cls d C f1 f2 d1 d2 G H σ) (ne : j ≠ i) : XI K i a cls d C f1 f2 d1 d2 G H (σ.set j v) :=
  ⟨by rw [List.getElem?_set_ne ne]; exact h.1, h.2⟩
theorem ssx_set {j : Nat} {x : Str} {pos' : Pos} (h : SEx ct X NoX i a cls d C f1 f2 e ma) (hN : X.N.Nodup) (hj : X.N[j]? = some x) (ne : j ≠ i) (hx : Loc X.env.scope x) (hs : swapsWith e (some (.Name x pos')) pos.line X.env = pure false) (hf : X.fn x = true ∨ X.env.scope.names.lookup x = some .local) :
    SSx ct X i a cls d C f1 f2 (.Assign [.Name x pos'] e pos) (fun d1 d2 => setS j (ma d1 d2)) := by
  obtain ⟨t, p, q⟩ := h
  refine ⟨tAsg t (gName j), ps_set hN hj hx p hs hf, fun d1 d2 ρ T S G H L M σ E xi f sl h => ?_⟩
  exact q d1 d2 ρ T S G H L M σ _ xi sl.1 f sl.2 (SatSX.of h fun r T1 S1 G1 H1 L1 M1 x e1 f1 r1 h1 => h1 G1 H1 L1 M1 _ (Ext.refl _ _ _ _) f1 ((sl.mono e1).set r1) ((xi.mono f e1 f1).set ne))
theorem ssx_if {c : Expr} {as bs : List Stmt} (hc : STx ct X i a cls d C f1 f2 c mt) (ha : SSxs ct X i a cls d C f1 f2 as s) (hb : SSxs ct X i a cls d C f1 f2 bs u) : SSx ct X i a cls d C f1 f2 (.If c as bs pos) (fun d1 d2 => ifS (mt d1 d2) (s d1 d2) (u d1 d2)) := by
  obtain ⟨t, p, q⟩ := hc
  obtain ⟨ta, pa, qa⟩ := ha
  obtain ⟨tb, pb, qb⟩ := hb
  refine ⟨tIfS t ta tb, ps_if p pa pb, fun d1 d2 ρ T S G H L M σ E xi f sl h => ?_⟩
  refine q d1 d2 ρ T S G H L M σ _ xi sl.1 f sl.2 (SatSX.of h fun r T1 S1 G1 H1 L1 M1 x e1 f1 r1 h1 => ?_)
  cases r1
  cases r with
  | true => exact qa d1 d2 ρ T1 S1 G1 H1 L1 M1 σ E (xi.mono f e1 f1) f1 (sl.mono e1) h1
  | false => exact qb d1 d2 ρ T1 S1 G1 H1 L1 M1 σ E (xi.mono f e1 f1) f1 (sl.mono e1) h1
end
section
variable {ct : Str → Option Addr} {X : Cx} [WC X.K] {W : WX} {i : Nat} {a : Addr} {cls : Value} {d : Option Addr} {C : Addr} {f1 f2 y cn : Str} {pos p pc py : Pos} {oe : Obj} {pn : List (Addr × Obj)}
theorem exo_ok {K : PySem.W.Frag} {D : Addr} (h : exoB K D = true) : ExcC K D := by
  unfold exoB at h
  simp only [Bool.and_eq_true, decide_eq_true_eq] at h
  obtain ⟨⟨⟨⟨⟨⟨⟨h1, h2⟩, h3⟩, h4⟩, h5⟩, h6⟩, h7⟩, h8⟩ := h
  exact ⟨He.eqO_ok h1, He.eqO_ok h2, h3, h4, He.eqO_ok h5, He.eqO_ok h6, h7, h8⟩
/-- isinstance(e, C2), e the error that was caught, an instance of C -/
theorem sex_isD {A2 : Addr} {b : Bool} (ec : ExcC X.K C) (hk : PySem.W.kitOne X.K (.ref C) (.ref A2) = some b) (hz : Zc cls d oe) (hf : ∃ vs, oe.data = .fields vs) (hg : Gl X "isinstance") (hm : X.mg "isinstance" = none) (hgc : Gl X cn) (hmc : X.mg cn = some (.ref A2)) (hd : (cn == ("__debug__" : Str)) = false)
    (hN : X.N[i]? = some y) (hv : X.env.scope.names.lookup y = some .local) (hed : (y == ("__debug__" : Str)) = false) (hec : (y == ("__classdict__" : Str)) = false)
    (h1 : starEach [.Name y py, .Name cn pc] X.env = (false, eval (.Name y py) X.env) :: starEach [.Name cn pc] X.env) (h2 : starEach [.Name cn pc] X.env = (false, eval (.Name cn pc) X.env) :: starEach [] X.env) (hpl : (backTo pos (starEach [.Name cn pc] X.env)).any (·.1) = false) :
    SEx ct (X.suite a ((a, oe) :: pn)) W i a cls d C f1 f2 (.Call (.Name "isinstance" p) [.Name y py, .Name cn pc] [] pos) (fun _ _ => cst (.bool b)) := by
  refine ⟨fun σ H Q => ∃ _ : cls = .ref C, tCB (rIsD X.K C a d) (tCons (tVar i) (tCons (tC (.ref A2)) tNil)) σ H Q, ⟨fun pins s σ H Q I h => ?_⟩, fun d1 d2 ρ T S G H L M σ Q xi hl f sl h => ?_⟩
  · obtain ⟨hC, h⟩ := h
    subst hC
    exact (pe_callB (X := X.suite a ((a, oe) :: pn)) (x := "isinstance") (call_isD (X := X) (pn := pn) ec hz hf) hg hm (by decide +kernel) (pa_cons (pe_var (i := i) hN (.inl hv) hed hec) (pa_cons (pe_glob (v := .ref A2) hgc hmc rfl hd) pa_nil h2) h1) (by decide) (by decide) h1 hpl).run pins s σ H Q I h
  · obtain ⟨h1, h2, dd, fs, v1, v2, h3, h4, h5, h6, h7, h8⟩ := xi
    exact ⟨h2, .ref a, h1, .ref A2, .ref A2, b, dd, fs, rfl, .own A2, h3, h4, hk, h G H L M (.bl b) (Ext.refl _ _ _ _) f (.bl b)⟩
end
/-! ### h(lambda: e), h with any suite -/
structure HcG where
  cls : Str
  f1 : Str
  f2 : Str
  ms : D → D → SM
def hearO (n fi : Nat) (c : HcG) (d1 d2 : D) (S : Sto) : FRes := match c.ms d1 d2 (List.replicate n none) [] S with
  | .next ρ T' S' => (match ρ[fi]? with
    | some (some r) => retR r T' S'
    | _ => .bad)
  | _ => .bad
def hearG (n fi : Nat) : List HcG → Exn → Sto → FRes
  | [], _, _ => .bad
  | c :: r, x, S => if x.cls = c.cls then (match x.fs with
    | [(g2, d2), (g1, d1)] => if g1 = c.f1 ∧ g2 = c.f2 then hearO n fi c d1 d2 S else .bad
    | _ => .bad) else hearG n fi r x S
def heardG (gave : Str) (n fi : Nat) (cs : List HcG) (m : EM Rv) : EM Rv := fun ρ T S => match m ρ T S with
  | .ok r T' S' => (match toD r T' with
    | some (d, T2) => .ok (.v (.tuple [.str gave, d])) T2 S'
    | none => .bad)
  | .exn x T' S' => (match hearG n fi cs x S' with
    | .ok r S2 => .ok r T' S2
    | _ => .bad)
  | .bad => .bad
section
variable {K : PySem.W.Frag} [WC K] {G H G' H' : Hp} {L L' M' : List Addr} {T' S' : Sto} {Q : VK} {r : Rv} {x : V}
theorem ret_sat (h : match retR r T' S' with
    | .ok r S2 => ∀ G2 H2 L2 x, Ext G H L [] G2 H2 L2 [] → Fits K G2 H2 L2 [] [] S2 → RepR K G2 L2 [] x r → Q x H2
    | _ => False) (x1 : Ext G H L [] G' H' L' M') (f1 : Fits K G' H' L' M' T' S') (r1 : RepR K G' L' M' x r) : Q x H' := by
  cases r with
  | v d => exact h G' H' L' x x1.dropM f1.dropM r1
  | loc n => exact h G' H' L' x x1.dropM f1.dropM r1
  | scr ns => exact h G' H' L' x x1.dropM f1.dropM r1
  | frd kvs => exact h G' H' L' x x1.dropM f1.dropM r1
  | fdt kvs => exact h G' H' L' x x1.dropM f1.dropM r1
  | frk kvs => exact h G' H' L' x x1.dropM f1.dropM r1
  | prd kvs d => exact h G' H' L' x x1.dropM f1.dropM r1
  | glo nm => exact h G' H' L' x x1.dropM f1.dropM r1
  | own k =>
    obtain ⟨a, ha, rfl⟩ := r1
    have h : match (match obList T'[k]? with | some xs => FRes.ok (.v (.list xs)) S' | none => .bad) with
      | .ok r S2 => ∀ G2 H2 L2 x, Ext G H L [] G2 H2 L2 [] → Fits K G2 H2 L2 [] [] S2 → RepR K G2 L2 [] x r → Q x H2
      | _ => False := h
    cases et : T'[k]? with
    | none => rw [et] at h; exact h.elim
    | some o =>
      rw [et] at h
      have ob := f1.obM k a o ha et
      cases o with
      | lst xs =>
        obtain ⟨vs2, b1, b2, b3⟩ := ob
        obtain ⟨x2, f2⟩ := f1.freeze ha b1 b2 b3
        exact h _ H' L' _ (x1.trans x2).dropM f2.dropM (show Rep K _ (.ref a) (.list xs) from .lst upd_same (b3.mono x2.gm))
      | frz xs =>
        obtain ⟨vs2, b1, b2, b3⟩ := ob
        exact h G' H' L' _ x1.dropM f1.dropM (show Rep K _ (.ref a) (.list xs) from .lst b2 b3)
      | dic kvs => exact h.elim
      | frd kvs => exact h.elim
      | lkd kvs => exact h.elim
      | dit kvs => exact h.elim
      | fdt kvs => exact h.elim
      | dnt kvs => exact h.elim
      | ins cls fs => exact h.elim
      | rls rs => exact h.elim
      | rdc kvs => exact h.elim
end
section
variable (ct : Str → Option Addr) (K : PySem.W.Frag) [WC K]
/-- an exception that a clause of cs hears, and what is then told -/
def ToldG (n fi : Nat) (cs : List HcG) (cls : Value) (d : Option Addr) (H' : Hp) (Q : VK) : Prop :=
  ∃ c ∈ cs, ∃ (C : Addr) (d1 d2 : D) (G' : Hp) (L' : List Addr) (S' : Sto), ct c.cls = some C ∧ cls = .ref C ∧ (∃ (dd : Addr) (fs : List (Str × V)) (v1 v2 : V), d = some dd ∧ H' dd = some (.xd fs) ∧ fs.lookup c.f1 = some v1 ∧ fs.lookup c.f2 = some v2 ∧ Rep K G' v1 d1 ∧ Rep K G' v2 d2) ∧ Fits K G' H' L' [] [] S' ∧
    match hearO n fi c d1 d2 S' with
    | .ok r S2 => ∀ G2 H2 L2 x, Ext G' H' L' [] G2 H2 L2 [] → Fits K G2 H2 L2 [] [] S2 → RepR K G2 L2 [] x r → Q x H2
    | _ => False
def TThG (gave : Str) (n fi : Nat) (cs : List HcG) : (XK → Hp → VK → Prop) → Hp → VK → Prop := fun tl H Q =>
  ∃ G L S, Fits K G H L [] [] S ∧ ∀ G1 H1, Ext G H L [] G1 H1 L [] → Fits K G1 H1 L [] [] S → tl (fun cls d H' => ToldG ct K n fi cs cls d H' Q) H1 (fun v H' => 2 ≤ sizeLine ∧ ∀ p, H' p = none → Q (.ref p) (upd H' p (.tup [.str gave, v])))
end
abbrev heardGB (a e fnm gave cn : Str) (init : Expr) (b₀ : Stmt) (suite : List Stmt) (j : Fin 2 → Nat) (q : Fin 13 → Pos) : List Stmt :=
  [.Assign [.Name fnm (q 0)] init (q 1),
   .Try [.Assign [.Name fnm (q 2)] (.Tuple [.Constant (.str gave) (j 0) (q 3), .Call (.Name a (q 4)) [] [] (q 5)] (j 1) (q 6)) (q 7)] [.ExceptHandler (some (.Name cn (q 8))) (some e) (b₀ :: suite) (q 9)] [] [] (q 10),
   .Return (some (.Name fnm (q 11))) (q 12)]
/-- what the first assignment may do -/
def IniOk (X : Cx) [WC X.K] (init : Expr) : Prop := ∃ ti, PE X init ti ∧ ∀ (G H : Hp) (L : List Addr) (S : Sto) (σ : L2.St) (Q : VK), Fits X.K G H L [] [] S → (∀ x G1 H1, Ext G H L [] G1 H1 L [] → Fits X.K G1 H1 L [] [] S → (∀ c o, H c = some o → H1 c = some o) → Q x H1) → ti σ H Q
abbrev cxH (P : Program) (w : World) (K : PySem.W.Frag) (mg : Str → Option Value) (base : Heap) (N : List Str) (x : Str) (sg : Scope) (g : Addr) (cdg : Value) (A : Around) (st : List Env) (s : Shared) (H : Hp) : Cx := (cxOf C8.CX0 P w K mg base N x sg g cdg A st s H C8.E0).nox
section
variable {ct : Str → Option Addr} {X : Cx} [WC X.K]
theorem heard_givesG {N : List Str} {x a e fnm cn q gave : Str} {sg : Scope} {g C0 : Addr} {cdg : Value} {init : Expr} {b₀ : Stmt} {suite : List Stmt} {j : Fin 2 → Nat} {qp : Fin 13 → Pos} {cs : List HcG} {fi ei : Nat}
    (hN : N.Nodup) (h0 : N[0]? = some a) (hfi : N[fi]? = some fnm) (hei : N[ei]? = some e) (hfe : fi ≠ ei) (hf0 : fi ≠ 0) (hge : sg.names.lookup cn = some .globalImplicit) (hme : X.mg cn = some (.ref C0)) (hde : (cn == ("__debug__" : Str)) = false)
    (hle : sg.names.lookup e = some .local) (hlf : sg.names.lookup fnm = some .local) (hfd : (fnm == ("__debug__" : Str)) = false) (hfc : (fnm == ("__classdict__" : Str)) = false)
    (hst : ∀ f : Addr, (L2.start N [V.ref f]).length = N.length ∧ (L2.start N [V.ref f])[0]? = some (some (V.ref f)))
    (hini : ∀ (s : Shared) (H : Hp), IniOk (cxH X.prog X.w X.K X.mg X.base N x sg g cdg X.A X.stack s H) init) (hsw0 : ∀ env, swapsWith init (some (.Name fnm (qp 0))) (qp 1).line env = pure false)
    (hsw1 : ∀ env, swapsWith (.Tuple [.Constant (.str gave) (j 0) (qp 3), .Call (.Name a (qp 4)) [] [] (qp 5)] (j 1) (qp 6)) (some (.Name fnm (qp 2))) (qp 7).line env = pure false)
    (hs1 : ∀ env, starEach [.Call (.Name a (qp 4)) [] [] (qp 5)] env = [(false, eval (.Call (.Name a (qp 4)) [] [] (qp 5)) env)])
    (hsu : ∀ c ∈ cs, ∃ C, ct c.cls = some C ∧ PySem.W.exmOne X.K (.ref C) (.ref C0) = some true ∧ ∀ (s : Shared) (H : Hp) (a' : Addr) (oe : Obj) (cls : Value) (d : Option Addr) (pn : List (Addr × Obj)), Zc cls d oe → (∃ vs, oe.data = .fields vs) →
      SSxs ct ((cxH X.prog X.w X.K X.mg X.base N x sg g cdg X.A X.stack s H).suite a' ((a', oe) :: pn)) ei a' cls d C c.f1 c.f2 (b₀ :: suite) c.ms) :
    LamX.GivesTo X N x sg g cdg (heardGB a e fnm gave cn init b₀ suite j qp) a q (TThG ct X.K gave N.length fi cs) := by
  intro f c' s H Q tl act hc h
  have hgl : Gl (cxH X.prog X.w X.K X.mg X.base N x sg g cdg X.A X.stack s H) cn := hge
  obtain ⟨ti, pi, qi⟩ := hini s H
  obtain ⟨G, L, S, hF, h⟩ := h
  refine ⟨_, pss_cons (ps_set (X := cxH X.prog X.w X.K X.mg X.base N x sg g cdg X.A X.stack s H) hN hfi (.inl hlf) pi (hsw0 _) (.inr hlf)) (pss_cons (ps_try_as (X := cxH X.prog X.w X.K X.mg X.base N x sg g cdg X.A X.stack s H) (c := .ref C0) (i := ei)
      (tb := fun W D σ H => ∃ Ech : XK, (∀ cls d σ' H', Ech cls d H' → σ'.length = N.length → W cls d σ' H') ∧ σ[0]? = some (some (.ref f)) ∧ H c' = some (LamX.CodeO c' q) ∧ tl Ech H (fun v H' => 2 ≤ sizeLine ∧ ∀ p, H' p = none → D.nx (σ.set fi (some (.ref p))) (upd H' p (.tup [.str gave, v]))))
      (ts := fun a' cls d E σ H => ∃ c ∈ cs, ∃ (C : Addr) (d1 d2 : D) (ρ : Vn) (T S : Sto) (G : Hp) (L M : List Addr), ct c.cls = some C ∧ XI X.K ei a' cls d C c.f1 c.f2 d1 d2 G H σ ∧ Fits X.K G H L M T S ∧ Sl X.K G L M ρ σ ∧ SatSX X.K (XI X.K ei a' cls d C c.f1 c.f2 d1 d2) G H L M E (c.ms d1 d2 ρ T S))
      rfl rfl hN hei hle ⟨hgl, hde, .inl hme⟩ takes0 (fun W pn xe tk _ => ?_) (fun a' oe cls d pn hz hf => ?_)) (pss_one (ps_ret (pe_var (i := fi) hfi (.inl hlf) hfd hfc)))), ?_⟩
  · refine ⟨fun pins s' σ H' D I h' => ?_⟩
    obtain ⟨Ech, hW, h1, h2, h3⟩ := h'
    have hp := act (fun c d σ H => σ.length = N.length → W c d σ H) pn xe Ech (qp 4) (qp 5) (takes_len tk) hW
    exact (pss_one (ps_set (X := (cxH X.prog X.w X.K X.mg X.base N x sg g cdg X.A X.stack s H).tr pn xe) hN hfi (.inl hlf) (pe_tup (pa_cons pe_str (pa_cons hp pa_nil (hs1 _)) rfl)) (hsw1 _) (.inr hlf))).run pins s' σ H' D I ⟨h1, h2, h3⟩
  · refine ⟨fun pins s' σ H' D I h' => ?_⟩
    obtain ⟨c, hc, C, d1, d2, ρ, T, S, G, L, M, hct, xi, hf2, sl, hs⟩ := h'
    obtain ⟨C2, hct2, _, hj⟩ := hsu c hc
    rw [hct] at hct2
    cases hct2
    obtain ⟨t, p, qt⟩ := hj s H a' oe cls d pn hz hf
    exact p.run pins s' σ H' D I (qt d1 d2 ρ T S G H' L M σ D xi hf2 sl hs)
  · refine qi G H L S _ _ hF fun x0 G1 H1 e1 f1 k1 => ?_
    obtain ⟨hl0, hs0⟩ := hst f
    have hfl : fi < N.length := (List.getElem?_eq_some_iff.mp hfi).1
    refine ⟨fun cls d H' => ToldG ct X.K N.length fi cs cls d H' Q, fun cls d σ' H' ht hl => ?_, ?_, k1 _ _ hc, ?_⟩
    · obtain ⟨c, hcm, C, d1, d2, G', L', S', hct, rfl, ⟨dd, fs, v1, v2, e3, e4, e5, e6, e7, e8⟩, f', hm⟩ := ht
      obtain ⟨C2, hct2, hex, _⟩ := hsu c hcm
      rw [hct] at hct2
      cases hct2
      have hel : ei < σ'.length := by rw [hl]; exact (List.getElem?_eq_some_iff.mp hei).1
      refine ⟨true, hex, fun _ a' ha => ⟨c, hcm, C, d1, d2, List.replicate N.length none, [], S', G', L', [], hct, ⟨List.getElem?_set_self hel, rfl, dd, fs, v1, v2, e3, e4, e5, e6, e7, e8⟩, f', ⟨by simp [hl], fun i r hi => ?_⟩, ?_⟩, fun z => by cases z⟩
      · rw [List.getElem?_replicate] at hi
        split at hi <;> cases hi
      · unfold hearO at hm
        cases em : c.ms d1 d2 (List.replicate N.length none) [] S' with
        | next ρ2 T2 S2 =>
          rw [em] at hm
          simp only at hm
          intro G2 H2 L2 M2 σ2 x2 f2 sl2 _
          cases er : ρ2[fi]? with
          | none => rw [er] at hm; exact (show False from hm).elim
          | some oo =>
            cases oo with
            | none => rw [er] at hm; exact (show False from hm).elim
            | some r =>
              rw [er] at hm
              obtain ⟨y, hy, ry⟩ := sl2.2 fi r er
              exact ⟨y, by rw [List.getElem?_set_ne (fun z => hfe z.symm)]; exact hy, ret_sat hm x2 f2 ry⟩
        | ret r T2 S2 => rw [em] at hm; exact (show False from hm).elim
        | brk ρ2 T2 S2 => rw [em] at hm; exact (show False from hm).elim
        | cnt ρ2 T2 S2 => rw [em] at hm; exact (show False from hm).elim
        | exn x ρ2 T2 S2 => rw [em] at hm; exact (show False from hm).elim
        | bad => rw [em] at hm; exact (show False from hm).elim
    · rw [List.getElem?_set_ne hf0]
      exact hs0
    · have h3 := h G1 H1 e1 f1
      have e9 : (fun (v : V) (H' : Hp) => 2 ≤ sizeLine ∧ ∀ p, H' p = none → Q (.ref p) (upd H' p (.tup [.str gave, v]))) = (fun (v : V) (H' : Hp) => 2 ≤ sizeLine ∧ ∀ p, H' p = none → tRet (tVar fi) { nx := fun _ H' => Q .non H', rt := Q } (((L2.start N [V.ref f]).set fi (some x0)).set fi (some (.ref p))) (upd H' p (.tup [.str gave, v]))) := by
        funext v H'
        refine propext ⟨fun ⟨h1, h2⟩ => ⟨h1, fun p hp => ⟨.ref p, List.getElem?_set_self (by rw [List.length_set, hl0]; exact hfl), h2 p hp⟩⟩, fun ⟨h1, h2⟩ => ⟨h1, fun p hp => ?_⟩⟩
        obtain ⟨y, hy, hq⟩ := h2 p hp
        rw [List.getElem?_set_self (by rw [List.length_set, hl0]; exact hfl)] at hy
        cases hy
        exact hq
      rw [e9] at h3
      exact h3
end
/-- a class of exceptions that a clause of C0 hears, with what its suite does -/
def CatG (P : Program) (w : World) (K : PySem.W.Frag) [WC K] (mg : Str → Option Value) (base : Heap) (ct : Str → Option Addr) (x : Str) (N : List Str) (g : Addr) (st : Stmt) (ei : Nat) (suite : List Stmt) (C0 : Addr) (c : HcG) : Prop :=
  c.f1 ≠ c.f2 ∧ ∃ C, ct c.cls = some C ∧ PySem.W.exmOne K (.ref C) (.ref C0) = some true ∧ ∀ (cdg : Value) (A : Around) (stk : List Env) (s : Shared) (H : Hp) (a' : Addr) (oe : Obj) (cls : Value) (d : Option Addr) (pn : List (Addr × Obj)), Room 2 A → Zc cls d oe → (∃ vs, oe.data = .fields vs) →
    SSxs ct ((cxH P w K mg base N x (defScope st) g cdg A stk s H).suite a' ((a', oe) :: pn)) ei a' cls d C c.f1 c.f2 suite c.ms
theorem cat_ok {P : Program} {w : World} {K : PySem.W.Frag} [WC K] {mg : Str → Option Value} {base : Heap} {ct : Str → Option Addr} {x : Str} {N : List Str} {g C0 : Addr} {st : Stmt} {ei : Nat} {suite : List Stmt} {c : HcG} (xc : Exc P K mg ct c.cls c.f1 c.f2) (hm : mg c.cls = some (.ref (He.ga K c.cls)))
    (ex : PySem.W.exmOne K (.ref (He.ga K c.cls)) (.ref C0) = some true)
    (h : XfC K (He.ga K c.cls) → PySem.W.findIn K (.ref (He.ga K c.cls)) c.f1 = some none → PySem.W.findIn K (.ref (He.ga K c.cls)) c.f2 = some none → ∀ (cdg : Value) (A : Around) (stk : List Env) (s : Shared) (H : Hp) (a' : Addr) (oe : Obj) (cls : Value) (d : Option Addr) (pn : List (Addr × Obj)), Room 2 A → Zc cls d oe → (∃ vs, oe.data = .fields vs) →
      SSxs ct ((cxH P w K mg base N x (defScope st) g cdg A stk s H).suite a' ((a', oe) :: pn)) ei a' cls d (He.ga K c.cls) c.f1 c.f2 suite c.ms) : CatG P w K mg base ct x N g st ei suite C0 c := by
  obtain ⟨C, fI, fd, hmC, hct, T, hbE, hxf, hex⟩ := xc
  rw [hm] at hmC
  cases hmC
  exact ⟨T.d12, _, hct, ex, h hxf T.n1 T.n2⟩
/-- h, the def that tells what it hears -/
structure HrdS (P : Program) (w : World) (K : PySem.W.Frag) [WC K] (mg : Str → Option Value) (base : Heap) (ct : Str → Option Addr) (x gave : Str) (fi : Nat) (cs : List HcG) (N : List Str) (g : Addr) (fd : FuncData) (st : Stmt) (a e fnm cn : Str) (init : Expr) (b₀ : Stmt) (suite : List Stmt) (j : Fin 2 → Nat) (q : Fin 13 → Pos) (ei : Nat) (C0 : Addr) : Prop where
  fn : Fun K x x st g fd
  m : mg x = some (.ref g)
  b : Binds K fd [a] []
  sc : FnScope N [a] (defScope st)
  bd : defBody st = heardGB a e fnm gave cn init b₀ suite j q
  nd : N.Nodup
  h0 : N[0]? = some a
  hfi : N[fi]? = some fnm
  hei : N[ei]? = some e
  hfe : fi ≠ ei
  hf0 : fi ≠ 0
  hge : (defScope st).names.lookup cn = some .globalImplicit
  hme : mg cn = some (.ref C0)
  hde : (cn == ("__debug__" : Str)) = false
  hle : (defScope st).names.lookup e = some .local
  hlf : (defScope st).names.lookup fnm = some .local
  hfd : (fnm == ("__debug__" : Str)) = false
  hfc : (fnm == ("__classdict__" : Str)) = false
  hst : ∀ f : Addr, (L2.start N [V.ref f]).length = N.length ∧ (L2.start N [V.ref f])[0]? = some (some (V.ref f))
  hini : ∀ (cdg : Value) (A : Around) (stk : List Env) (s : Shared) (H : Hp), IniOk (cxH P w K mg base N x (defScope st) g cdg A stk s H) init
  hsw0 : ∀ env, swapsWith init (some (.Name fnm (q 0))) (q 1).line env = pure false
  hsw1 : ∀ env, swapsWith (.Tuple [.Constant (.str gave) (j 0) (q 3), .Call (.Name a (q 4)) [] [] (q 5)] (j 1) (q 6)) (some (.Name fnm (q 2))) (q 7).line env = pure false
  va : Vis (defScope st) a
  ad : (a == ("__debug__" : Str)) = false
  ac : (a == ("__classdict__" : Str)) = false
  hsu : ∀ c ∈ cs, CatG P w K mg base ct x N g st ei (b₀ :: suite) C0 c
def HrdG (P : Program) (w : World) (K : PySem.W.Frag) [WC K] (mg : Str → Option Value) (base : Heap) (ct : Str → Option Addr) (x gave : Str) (n fi : Nat) (cs : List HcG) : Prop :=
  ∃ N g fd st a e fnm cn init b₀ suite j q ei C0, N.length = n ∧ HrdS P w K mg base ct x gave fi cs N g fd st a e fnm cn init b₀ suite j q ei C0
theorem ini_tup2 {X : Cx} [WC X.K] {x y : Expr} {j : Nat} {pos : Pos} {va vb : V} (ha : PE X x (tC va)) (hb : PE X y (tC vb)) (h1 : starEach [x, y] X.env = (false, eval x X.env) :: starEach [y] X.env) (h2 : starEach [y] X.env = (false, eval y X.env) :: starEach [] X.env) : IniOk X (.Tuple [x, y] j pos) := by
  refine ⟨_, pe_tup (pa_cons ha (pa_cons hb pa_nil h2) h1), fun G H L S σ Q f q => ?_⟩
  refine ⟨by rw [sizeLine_eq]; simp, fun p hp => ?_⟩
  obtain ⟨x1, f1⟩ := f.new (o := .tup [va, vb]) hp fun _ z => by cases z
  exact q _ _ _ x1 f1 fun c o hc => by rw [upd_ne (ne_of_none hc hp)]; exact hc
section
variable {ct : Str → Option Addr} {X : Cx} [WC X.K] {W : WX} {x gave : Str} {n fi : Nat} {cs : List HcG} {k : Nat} {params : Arguments} {body : Expr} {scope : Scope} {mb : EM Rv} {p lpos pos : Pos} {q : Str}
theorem toldG_of {G2 H2 : Hp} {L2' M2 : List Addr} {T' S' S2 : Sto} {c : Value} {d : Option Addr} {r : Rv} {Q : VK} (f : Fits X.K G2 H2 L2' M2 T' S') (hq : ∀ G3 H3 L3 y, Ext G2 H2 L2' [] G3 H3 L3 [] → Fits X.K G3 H3 L3 [] [] S2 → RepR X.K G3 L3 [] y r → Q y H3) :
    ∀ (cs : List HcG) {z : Exn}, (∀ k ∈ cs, k.f1 ≠ k.f2) → RepX ct X.K G2 H2 c d z → hearG n fi cs z S' = .ok r S2 → ToldG ct X.K n fi cs c d H2 Q
  | [], z, _, rx, h => by cases h
  | k :: cs, z, hn, rx, h => by
    unfold hearG at h
    by_cases hk : z.cls = k.cls
    · rw [if_pos hk] at h
      obtain ⟨zc, zf⟩ := z
      have hk : zc = k.cls := hk
      subst hk
      match zf, h, rx with
      | [], h, _ => cases h
      | [_], h, _ => cases h
      | _ :: _ :: _ :: _, h, _ => cases h
      | [(g2, d2), (g1, d1)], h, rx =>
        obtain ⟨C2, dx, fs, hct, rfl, rfl, hxd, hkk, hv⟩ := rx
        have h2 : (if g1 = k.f1 ∧ g2 = k.f2 then hearO n fi k d1 d2 S' else .bad) = .ok r S2 := h
        by_cases hg : g1 = k.f1 ∧ g2 = k.f2
        · rw [if_pos hg] at h2
          obtain ⟨rfl, rfl⟩ := hg
          match fs, hkk, hv, hxd with
          | [(n2, v2), (n1, v1)], hkk, hv, hxd =>
            have e1 : n2 = k.f2 := (List.cons.inj hkk).1
            have e2 : n1 = k.f1 := (List.cons.inj (List.cons.inj hkk).2).1
            subst e1; subst e2
            cases hv with
            | cons q2 hv =>
            cases hv with
            | cons q1 _ =>
            refine ⟨k, List.mem_cons_self, C2, d1, d2, G2, L2', S', hct, rfl, ⟨dx, _, v1, v2, rfl, hxd, ?_, ?_, q1, q2⟩, f.dropM, ?_⟩
            · rw [lk_cons, if_neg (hn k List.mem_cons_self), lk_cons, if_pos rfl]
            · rw [lk_cons, if_pos rfl]
            · rw [h2]; exact hq
        · rw [if_neg hg] at h2; cases h2
    · rw [if_neg hk] at h
      obtain ⟨c', hc', rest⟩ := toldG_of f hq cs (fun k hk => hn k (List.mem_cons_of_mem _ hk)) rx h
      exact ⟨c', List.mem_cons_of_mem _ hc', rest⟩
theorem se_heardG (hd : HrdG X.prog X.w X.K X.mg X.base ct x gave n fi cs) (hg : Gl X x) (TL : TabsOk X.K X.mg X.base) (hC : CdOk X.K X.mg X.base X.env.code q) (hq : X.env.qual ++ "<lambda>" = lamQ q) (hr : Room (k + 2) X.A) (L : LamX.LamS X.env.scope scope) (hdef : defaultsOf params X.env = ([], []))
    (hbind : ∀ (q : Str) (cl : List (Str × Addr)) (pm cv ctv : Value), bindArgs (PySem.W.kla_fn "<lambda>" q params body scope cl pm cv ctv) ⟨[], []⟩ = pure [])
    (hbody : ∀ (A : Around) (outer : List Env) (s : Shared) (H : Hp) (E : XK) (f c' : Addr), Room k (A.deeper (LamX.lamEnv X scope s.heap.objs.size f c')) → SE ct (LamX.lamCx X A outer s H E scope f c') (WEx E) body mb)
    (hdb : (x == ("__debug__" : Str)) = false) : SE ct X W (.Call (.Name x p) [.Lambda params body scope lpos] [] pos) (heardG gave n fi cs mb) := by
  obtain ⟨N, g, fd, st, a, e, fnm, cn, init, b₀, suite, j, qp, ei, C0, hn, hS⟩ := hd
  obtain ⟨c, ec, hmT, hTB⟩ := hC
  have F := hS.fn
  have kp := F.kp
  have hm := hS.m
  have hb := hS.b
  obtain ⟨oc, od, kV, doc, pm, an, cdv, ctv, osl, rfl, lk, hcd⟩ := F.ex
  have hG : LamX.GivesTo X N x (defScope st) g cdv (defBody st) a (X.env.qual ++ "<lambda>") (TThG ct X.K gave N.length fi cs) := by
    rw [hS.bd]
    exact heard_givesG hS.nd hS.h0 hS.hfi hS.hei hS.hfe hS.hf0 hS.hge hS.hme hS.hde hS.hle hS.hlf hS.hfd hS.hfc hS.hst (fun s H => hS.hini cdv X.A X.stack s H) hS.hsw0 hS.hsw1 (fun _ => rfl) fun c hc => by
      obtain ⟨_, C, h1, h2, h3⟩ := hS.hsu c hc
      exact ⟨C, h1, h2, fun s H a' oe cls d pn hz hf => h3 cdv X.A X.stack s H a' oe cls d pn (hr.mono (by omega)) hz hf⟩
  have P0 := LamX.pe_lamcall (X := X) (T := ttOf X.K) (TT := TThG ct X.K gave N.length fi cs) (x := x) (a := a) (g := g) (c := c) (P := He.tabOf X.K c) (k := k) (Ng := N) (params := params) (body := body) (scope := scope) (t := fun E => tOfE ct X.K (WEx E) mb) (p := p) (lpos := lpos) (pos := pos)
    hg hm kp lk hcd hb hS.sc hS.h0 hS.va hG hTB ec (by rw [hq]; exact hmT) (fun p hp e => by rw [hq]; exact TL.fn p hp _ hmT e) hr L hdef hbind (fun A outer s H E f c' hr => (hbody A outer s H E f c' hr).canon) hdb hS.ad hS.ac
  refine ⟨_, P0, fun ρ T S G H L0 M σ Q hl f sl h => ?_⟩
  refine ⟨f.tbs.tab, fun H1 hN hT => ?_⟩
  obtain ⟨x1, f1'⟩ := f.extN hN hT
  refine ⟨G, L0, S, f1'.dropM, fun G2 H2 y1 g1 => ?_⟩
  obtain ⟨x2, f2'⟩ := f1'.back y1 g1
  refine ⟨ρ, T, S, G2, L0, M, hl, f2', sl.mono (x1.trans x2), ?_⟩
  unfold heardG at h
  cases er : mb ρ T S with
  | ok r T' S' =>
    rw [er] at h
    intro G3 H3 L3 M3 y x3 f3 r3
    refine ⟨by rw [sizeLine_eq]; decide, fun p hp => ?_⟩
    cases ed : toD r T' with
    | none => simp only [ed] at h; exact (show False from h).elim
    | some pr =>
      obtain ⟨d, T2⟩ := pr
      simp only [ed] at h
      obtain ⟨G4, x4, f4, r4⟩ := toD_ok f3 r3 ed
      obtain ⟨x5, f5⟩ := f4.new (o := .tup [.str gave, y]) hp fun _ z => by cases z
      exact h _ _ L3 M3 (.ref p) (x1.trans (x2.trans (x3.trans (x4.trans x5)))) f5 (show Rep X.K _ (.ref p) (.tuple [.str gave, d]) from .tup (.inl upd_same) (.cons (.str _) (.cons (r4.mono x5.gm) .nil)))
  | exn z T' S' =>
    rw [er] at h
    simp only at h
    intro G3 H3 L3 M3 c d x3 f3 rx
    rw [hn]
    cases eh : hearG n fi cs z S' with
    | ok r S2 =>
      rw [eh] at h
      refine toldG_of f3 (fun G4 H4 L4 y x4 f4 r4 => ?_) cs (fun k hk => (hS.hsu k hk).1) rx eh
      obtain ⟨x5, f5⟩ := f3.back x4 f4
      exact h _ _ _ _ y (x1.trans (x2.trans (x3.trans x5))) f5 (r4.monoL (Same.refl _) (List.prefix_refl _) ⟨M3, rfl⟩)
    | exn z S2 => rw [eh] at h; exact (show False from h).elim
    | bad => rw [eh] at h; exact (show False from h).elim
  | bad => rw [er] at h; exact (show False from h).elim
end
/-- the parts of such a body -/
def suiteOfG : List Stmt → List Stmt
  | [_, .Try _ [.ExceptHandler _ _ s _] _ _ _, _] => s
  | _ => []
def initOfG : List Stmt → Expr
  | [.Assign _ e _, _, _] => e
  | _ => .Constant .none 0 ⟨0, 0, 0, 0⟩
end RB
end
/-! text RMethW -/
section
set_option Elab.async false
set_option linter.all false
set_option maxRecDepth 100000
set_option maxHeartbeats 4000000
/-! RMethW: o.m(e, .., k = v, ..). -/
namespace RB
open PySem PySem.Spec PyProof.Rows L2
end RB
end
/-! text RRefl -/
section
set_option Elab.async false
set_option linter.all false
set_option maxRecDepth 100000
set_option maxHeartbeats 4000000
/-! RRefl: a + o where o is an instance with an own __radd__ and a is data; -o for an instance with an own __neg__; C.m(k = v) for a static method. -/
namespace PySem.W
open PySem PySem.Calls PyProof.Rows
section
variable {prog : Program} {w : World} {A : Around} {E : Value → Shared → Prop} {s : Shared} {K : Frag} {x C f f0 : Addr} {ox : Obj} {od : Option Obj} {T : String}
theorem noFill_none_add : fillsNumberSlot (.type "NoneType") "add" = pure false := by
  have h1 : typeLookup (.type "NoneType") (PySem.dunder "add") = pure none := by rw [typeLookup_type, builtinLookup_eq_fast]; kernel_rfl
  have h2 : typeLookup (.type "NoneType") (dunderR "add") = pure none := by rw [typeLookup_type, builtinLookup_eq_fast]; kernel_rfl
  unfold fillsNumberSlot
  simp only [h1, h2, pure_bind]
  rfl
theorem bin_refl {b : Value} {left : Bool} {Q : Value → Shared → Prop} (X : K.In s.heap) (I : InstAt s.heap x ox C od) (hb : Looks (model prog w) s.heap (typeOf b) (.type T))
    (hfl : fillsNumberSlot (.type T) "add" = pure left) (hdec : left = true → ∀ Q' : Option Value → Shared → Prop, Q' none s → wpAny (model prog w) A (tryMethod b (PySem.dunder "add") (.ref x)) Q' E s)
    (hc : selfFirst K C = true) (hs : findIn K (.ref C) (PySem.dunder "add") = some (some (.ref f0))) (hr : findIn K (.ref C) (dunderR "add") = some (some (.ref f))) (hf : isFn K (.ref f) = true) (hsub : subIn K (.ref C) (.type T) = some false)
    (h : wpAny (model prog w) A (call (.ref f) [.ref x, b]) (CmpBack Q) E s) : wpAny (model prog w) A (binaryOp .Add b (.ref x)) Q E s := by
  obtain ⟨cd, rest, hcd, hm⟩ := ksp_first hc
  have one := ksp_try X I hr hf h
  obtain ⟨hh, g, d, tt, os⟩ := s
  have L1 : Looks (model prog w) hh (typeOf (.ref x)) (.ref C) := I.type
  have L2 : Looks (model prog w) hh (typeOf b) (.type T) := hb
  have L3 : Looks (model prog w) hh (fillsNumberSlot (.ref C) "add") true := fills_K X hcd hm hs
  have L4 : Looks (model prog w) hh (fillsNumberSlot (.type T) "add") left := Looks.of_pure hfl
  have L5 : Looks (model prog w) hh (isSubtype (.ref C) (.type T)) false := looks_subIn X hsub
  have L7 : Looks (model prog w) hh (numberSlotInPython (.type T) "add") false := Looks.of_pure rfl
  have hne : (Value.type T == Value.ref C) = false := Bool.eq_false_iff.mpr fun q => by cases beq_iff_eq.mp q
  have hi : Operator.Add.info = ("+", "add") := rfl
  simp only [binaryOp, hi]
  refine wpAny_holding (wpAny_bind ?_)
  unfold binaryOp1
  refine wpAny_bind (L2.at (wpAny_bind (L1.at (wpAny_bind (L4.at ?_)))))
  simp only [hne, Bool.false_eq_true, if_false]
  cases left with
  | false =>
    ksp_lk
    refine wpAny_mono one (fun r s' hr' => ?_) fun _ _ e => e
    obtain ⟨v, rfl, hq⟩ := hr'
    ksp_lk
    exact hq
  | true =>
    ksp_lk
    refine hdec rfl _ ?_
    ksp_lk
    refine wpAny_mono one (fun r s' hr' => ?_) fun _ _ e => e
    obtain ⟨v, rfl, hq⟩ := hr'
    ksp_lk
    exact hq
/-- int.__add__ knows nothing of an instance -/
theorem int_add_inst {b : Value} {T : String} {i : Int} (hT : s.TypeIs b T) (hsl : Slot T (PySem.dunder "add") "int.__add__") (hbi : asInt? b = pure (some i)) (I : InstAt s.heap x ox C od) (hp : ox.data = .plain) {Q' : Option Value → Shared → Prop} (h : Q' none s) : wpAny (model prog w) A (tryMethod b (PySem.dunder "add") (.ref x)) Q' E s := by
  refine wpAny_tryMethod_declines hT hsl (wpAny_call_entry hsl hT F.entry_int_add ?_ (F.args_int_add_2 _ _))
  have hx : s.heap.get? x = some ox := I.at_
  show wpAny _ _ (do
    let (self, rest) ← slotArgs "__add__" 1 ⟨[b, Value.ref x], []⟩
    let x ← Builtin.Int.intOfSelf self
    let some y ← asInt? (rest.headD .none) | rule "int.binary.not-an-int"; ret .notImplemented
    if false then retInt (y + x) else retInt (x + y)) _ _ s
  have e1 : slotArgs "__add__" 1 ⟨[b, Value.ref x], []⟩ = pure (b, [Value.ref x]) := rfl
  have e2 : Builtin.Int.intOfSelf b = pure i := by unfold Builtin.Int.intOfSelf; rw [hbi]; rfl
  simp only [e1, pure_bind, e2]
  refine wpAny_bind (m := asInt? (.ref x)) ?_
  unfold asInt?
  refine wpAny_bind (wpAny_load hx ?_)
  rw [hp]
  refine wpAny_pure ?_
  exact wpAny_bind (wpAny_rule (wpAny_pure ⟨_, rfl, rfl, h⟩))
end
end PySem.W
namespace RB
open PySem PySem.Spec PyProof.Rows L2
/-- a + b, b an instance, a data -/
def binRI (cls : Str) (fm : FM) (a b : Rv) (T S : Sto) : Res Rv := if isVB a = true ∧ insNo cls none b S = true then argR fm b [a] T S else .bad
/-- -o -/
def negI (cls : Str) (fm : FM) (r : Rv) (T S : Sto) : Res Rv := if insNo cls none r S = true then argR fm r [] T S else .bad
def negIM (cls : Str) (fm : FM) (m : EM Rv) : EM Rv := fun ρ T S => (m ρ T S).bind (negI cls fm)
theorem oe_sub {K : PySem.W.Frag} {C f : Addr} (c : oeB K C f = true) : ∀ t ∈ kinds6, PySem.W.subIn K (.ref C) (.type t) = some false := by
  unfold oeB at c
  split at c
  · rename_i t dd cd sl u od dt osl lC lf
    split at c
    · rename_i C' ob k0 k1 k2 k3 nid k5 c0 d0 es ep sl0 hm hs hns
      simp only [Bool.and_eq_true, beq_iff_eq, Bool.not_eq_true'] at c
      obtain ⟨_, _, _, rfl, _⟩ := c
      intro z hz
      show PySem.W.mroIn K C (.type z) = some false
      unfold PySem.W.mroIn PySem.W.clsIn
      rw [lC]
      simp only [kinds6, List.mem_cons, List.not_mem_nil, or_false] at hz
      rcases hz with rfl | rfl | rfl | rfl | rfl | rfl
      all_goals
        rw [Option.bind_some, hm]
        rfl
    · cases c
  · cases c
/-- what stands left of the sign -/
inductive SideR (K : PySem.W.Frag) (H : Hp) : V → Prop
  | int (i : Int) : SideR K H (.int i)
  | bl (b : Bool) : SideR K H (.bl b)
  | oth {y : V} {t : String} : t ∈ ["NoneType", "str", "list", "tuple"] → TyX K H y (.type t) → SideR K H y
section
variable {ct : Str → Option Addr} {X : Cx} [WC X.K] {W : WX} {pos : Pos} {a b : Expr} {ma mb : EM Rv} {cls : Str} {k n np : Nat} {g g0 : Addr} {fm : FM}
theorem sideR_ok {G H : Hp} {L M : List Addr} {T S : Sto} {y : V} {r : Rv} (ft : Fits X.K G H L M T S) (h : RepR X.K G L M y r) (e : isVB r = true) : SideR X.K H y := by
  cases r with
  | v d =>
    have h : Rep X.K G y d := h
    cases h with
    | non => exact .oth (t := "NoneType") (by simp) (.base .non)
    | bl b => exact .bl b
    | int i => exact .int i
    | str z => exact .oth (t := "str") (by simp) (.base (.str z))
    | tup hs _ => exact .oth (t := "tuple") (by simp) (tyX_tup (sqT_mono ft.sub hs))
    | lst hg _ => exact .oth (t := "list") (by simp) (.base (.lst (ft.sub _ _ hg)))
  | _ => cases e
theorem run_refl (ho : opB X.K (He.ga X.K cls) g0 "add" = true) (hr : cmB X.K (He.ga X.K cls) g "__radd__" = true) (hoe : ∀ t ∈ kinds6, PySem.W.subIn X.K (.ref (He.ga X.K cls)) (.type t) = some false) {pins : List (Addr × Obj)} {σ : L2.St} {H : Hp} {s : Shared} {Q : Value → Shared → Prop} {x : Addr} {y : V} {u : Value} {dx : Addr} {fs : List (Str × V)} {E : Value → Shared → Prop} (I : Inv X pins σ H s)
    (hx : H x = some (.ins (He.ga X.K cls) dx fs)) (ry : RelV y u) (sd : SideR X.K H y) (h : wpAny (model X.prog X.w) X.A (call (.ref g) [.ref x, u]) (PySem.W.CmpBack Q) E s) : wpAny (model X.prog X.w) X.A (binaryOp .Add u (.ref x)) Q E s := by
  obtain ⟨h1, h2, h3, _, h6⟩ := opB_ok ho
  obtain ⟨r1, r2, _, _⟩ := cmB_ok hr
  have r1 : PySem.W.findIn X.K (.ref (He.ga X.K cls)) (dunderR "add") = some (some (.ref g)) := r1
  obtain ⟨ox, od, J, hp⟩ := StX.insC_at I (.inr ⟨dx, fs, hx⟩)
  cases sd with
  | int i =>
    obtain ⟨t, rfl⟩ : ∃ t, u = .int i t := ry
    exact PySem.W.bin_refl I.kIn J (.of_pure rfl) fills_int_add (fun _ Q' q => PySem.W.int_add_inst (T := "int") (typeIs_int _ _ _) slot_int_add rfl J hp q) h1 h2 r1 r2 (hoe _ (by simp [kinds6])) h
  | bl c =>
    obtain rfl : u = .bool c := ry
    exact PySem.W.bin_refl I.kIn J (.of_pure rfl) F.fills_bool_add (fun _ Q' q => PySem.W.int_add_inst (s := s) (b := .bool c) (T := "bool") (show s.TypeIs (.bool c) "bool" from rfl) F.slot_bool_add rfl J hp q) h1 h2 r1 r2 (hoe _ (by simp [kinds6])) h
  | oth ht ty =>
    obtain ⟨P, Z, p, _⟩ := kit_of I ry ty
    simp only [List.mem_cons, List.not_mem_nil, or_false] at ht
    rcases ht with rfl | rfl | rfl | rfl
    · exact PySem.W.bin_refl I.kIn J (Z.ty _ _ I.kIn p) PySem.W.noFill_none_add (fun z => (nomatch z)) h1 h2 r1 r2 (hoe _ (by simp [kinds6])) h
    · exact PySem.W.bin_refl I.kIn J (Z.ty _ _ I.kIn p) PySem.noFill_str_add (fun z => (nomatch z)) h1 h2 r1 r2 (hoe _ (by simp [kinds6])) h
    · exact PySem.W.bin_refl I.kIn J (Z.ty _ _ I.kIn p) PySem.noFill_list_add (fun z => (nomatch z)) h1 h2 r1 r2 (hoe _ (by simp [kinds6])) h
    · exact PySem.W.bin_refl I.kIn J (Z.ty _ _ I.kIn p) PySem.noFill_tuple_add (fun z => (nomatch z)) h1 h2 r1 r2 (hoe _ (by simp [kinds6])) h
/-- a + b, b an instance -/
theorem se_binRI (ho : opB X.K (He.ga X.K cls) g0 "add" = true) (hrr : cmB X.K (He.ga X.K cls) g "__radd__" = true) (hoe : oeB X.K (He.ga X.K cls) n = true) (F : Dfi X.prog X.w X.K X.mg X.base ct g k 2 fm) (hr : Room k X.A) (tk : Takes X W) (ha : SE ct X W a ma) (hb : SE ct X W b mb) : SE ct X W (.BinOp a .Add b pos) (bin (binRI cls fm) ma mb) := by
  obtain ⟨ta, pa, qa⟩ := ha
  obtain ⟨tb, pb, qb⟩ := hb
  refine ⟨fun σ H Q => ta σ H fun x H1 => tb σ H1 fun y H2 => ∃ p dx fs, y = .ref p ∧ H2 p = some (.ins (He.ga X.K cls) dx fs) ∧ SideR X.K H2 x ∧ spF ct X.K 2 fm [.ref p, x] H2 Q (WE W σ), ⟨fun pins s σ H Q I h => ?_⟩, fun ρ T S G H L M σ Q hl f sl h => ?_⟩
  · refine wpAny_BinOp (binT pa pb (R := fun x y H2 => ∃ p dx fs, y = .ref p ∧ H2 p = some (.ins (He.ga X.K cls) dx fs) ∧ SideR X.K H2 x ∧ spF ct X.K 2 fm [.ref p, x] H2 Q (WE W σ)) I h fun v u s2 x y H2 I2 rx ry q => ?_)
    obtain ⟨p, dx, fs, rfl, hp, sd, q⟩ := q
    cases (show u = Value.ref p from ry)
    refine run_refl ho hrr (oe_sub hoe) I2 hp rx sd (wpAny_mono (wpAny_call (runAt (us := [.ref p, v]) (vs := [.ref p, x]) F.r hr (passAt tk σ) I2 (.cons rfl (.cons rx .nil)) q)) (fun _ _ z => back_of z) fun _ _ z => z)
  · refine qa ρ T S G H L M σ _ hl f sl (Sat.bind h fun va T1 S1 G1 H1 L1 M1 x e1 f1 r1 h1 => ?_)
    refine qb ρ T1 S1 G1 H1 L1 M1 σ _ hl f1 (sl.mono e1) (Sat.bind h1 fun vb T2 S2 G2 H2 L2 M2 y e2 f2 r2 h2 => ?_)
    unfold binRI at h2
    split at h2
    · rename_i hz
      have r1' := r1.mono e2
      obtain ⟨j, p, dx, fs, ws, rfl, hj, rfl, hh, _⟩ := ins_at f2 r2 hz.2
      exact ⟨p, dx, ws, rfl, hh, sideR_ok f2 r1' hz.1, self_ok (rs := [va]) rfl f2 hj (.cons r1' .nil) h2⟩
    · exact (show False from h2).elim
/-- -o -/
theorem se_negI (hrr : cmB X.K (He.ga X.K cls) g "__neg__" = true) (F : Dfi X.prog X.w X.K X.mg X.base ct g k 1 fm) (hr : Room k X.A) (tk : Takes X W) (ha : SE ct X W a ma) : SE ct X W (.UnaryOp .USub a pos) (negIM cls fm ma) := by
  obtain ⟨ta, pa, qa⟩ := ha
  obtain ⟨q1, q2, _, _⟩ := cmB_ok hrr
  refine ⟨fun σ H Q => ta σ H fun x H1 => ∃ p dx fs, x = .ref p ∧ H1 p = some (.ins (He.ga X.K cls) dx fs) ∧ spF ct X.K 1 fm [.ref p] H1 Q (WE W σ), ⟨fun pins s σ H Q I h => ?_⟩, fun ρ T S G H L M σ Q hl f sl h => ?_⟩
  · refine UnaryOp_ (thn (pa.run pins s σ H _ I h) fun v s1 ⟨x, H1, I1, rx, p, dx, fs, ex, hp, q⟩ => ?_)
    subst ex
    cases (show v = Value.ref p from rx)
    obtain ⟨ox, od, J, _⟩ := StX.insC_at I1 (.inr ⟨dx, fs, hp⟩)
    unfold unaryOp
    refine wpAny_holding ?_
    exact wpAny_bind (PySem.W.special_fn I1.kIn J q1 (beq_iff_eq.mp q2) (wpAny_mono (wpAny_call (runAt (us := [.ref p]) (vs := [.ref p]) F.r hr (passAt tk σ) I1 (.cons rfl .nil) q)) (fun _ _ z => wpAny_pure z) fun _ _ z => z))
  · refine qa ρ T S G H L M σ _ hl f sl (Sat.bind h fun va T1 S1 G1 H1 L1 M1 x e1 f1 r1 h1 => ?_)
    unfold negI at h1
    split at h1
    · rename_i hz
      obtain ⟨j, p, dx, fs, ws, rfl, hj, rfl, hh, _⟩ := ins_at f1 r1 hz
      exact ⟨p, dx, ws, rfl, hh, self_ok (rs := []) rfl f1 hj .nil h1⟩
    · exact (show False from h1).elim
end
end RB
end
/-! text RSmW -/
section
set_option Elab.async false
set_option linter.all false
set_option maxRecDepth 100000
set_option maxHeartbeats 4000000
/-! RSmW: C.m(k = v, ..) for a static method. -/
namespace RB
open PySem PySem.Spec PyProof.Rows L2
/-- a static method that is called by names -/
def DfiS (P : Program) (w : World) (K : PySem.W.Frag) [WC K] (mg : Str → Option Value) (base : Heap) (ct : Str → Option Addr) (a : Addr) (lev n np : Nat) (ks : List Str) (π : List Nat) (f : FM) : Prop :=
  ∃ fd ps, FnOk P w K mg base (L2.CX P w) lev a fd ps (spF ct K n f) ∧ ∃ g, KBn K fd ps np ks g (fun vs zs => pick π (vs ++ zs))
section
variable {ct : Str → Option Addr} {X : Cx} [WC X.K] {W : WX} {pos apos p : Pos} {ms mz : EM (List Rv)} {cls : Str} {k n np : Nat} {fm : FM} {kws : List Keyword}
theorem se_smethW0 {mc : Value} {ml : Str} {q g : Addr} (ks : List Str) (π : List Nat) (hg : Gl X cls) (hmc : X.mg cls = some (.ref (He.ga X.K cls))) (hd : (cls == ("__debug__" : Str)) = false) (r : ClX.CRead X.K (He.ga X.K cls) mc) (c : SMet X.K (He.ga X.K cls) mc ml q g) (F : DfiS X.prog X.w X.K X.mg X.base ct g k n 0 ks π fm)
    (hπ : π.all (fun i => decide (i < ks.length)) = true) (hπn : π.length = n) (hr : Room k X.A) (tk : Takes X W) (hz : SK ct X W kws ks.length mz) {pl : Sem Bool}
    (hall : (backToKw pos (keywordEach kws X.env)).all (·.1.isSome) = true) (hks : (backToKw pos (keywordEach kws X.env)).filterMap (·.1) = ks)
    (ht : eval (.Call (.Attribute (.Name cls p) ml apos) [] kws pos) X.env = (eval (.Name cls p) X.env >>= fun ov => standAt apos.atName >>= fun _ => holding [ov] (getMethod ov ml pl) >>= fun z => callWith pos z.1 z.2 (backTo pos (starEach [] X.env)) (backToKw pos (keywordEach kws X.env))))
    (hpl : ((backTo pos (starEach [] X.env)).any (·.1) || (backToKw pos (keywordEach kws X.env)).any (·.1.isNone)) = false) :
    SE ct X W (.Call (.Attribute (.Name cls p) ml apos) [] kws pos) (callM (callF fm) (permA π mz)) := by
  obtain ⟨fd, ps, F, gg, hb⟩ := F
  obtain ⟨⟨t2, pk, qk⟩, hn2⟩ := hz
  have hpi : ∀ i ∈ π, i < ks.length := fun i hi => of_decide_eq_true (List.all_eq_true.mp hπ i hi)
  refine ⟨fun σ H Q => t2 σ H fun zs H2 => zs.length = ks.length ∧ spF ct X.K n fm (pick π zs) H2 Q (WE W σ), ⟨fun pins s σ H Q I h => ?_⟩, fun ρ T S G H L M' σ Q hl ft sl h => ?_⟩
  · refine PySem.W.methodCall_KW (pl := pl) (thn ((pe_glob (v := .ref (He.ga X.K cls)) hg hmc rfl hd).run pins s σ H (fun x H1 => x = .ref (He.ga X.K cls) ∧ H1 = H) I ⟨rfl, rfl⟩) fun u s1 ⟨x, H1, I1, rx, ex, eh⟩ => ?_) ht
    subst ex
    subst eh
    obtain rfl : u = Value.ref (He.ga X.K cls) := rx
    obtain ⟨rest, hp⟩ := c.rc
    refine PySem.W.method_cls I1.kIn r.ga (PySem.W.cls_bind I1.kIn r.rd c.at_ (wpAny_call (PySem.W.sm_get (s := { s1 with toks := s1.toks + 1 }) I1.kIn hp (PySem.W.handed_on rfl ?_))))
    have I2 : Inv X pins σ H1 { s1 with toks := s1.toks + 1 } := I1.tok _
    refine PySem.W.callWith_KW0 (h₀ := X.base) I2.ok.mod.kin c.kp hall ?_ hpl
    refine thn (pk.run pos pins _ σ H1 _ I2 h) fun ws s2 ⟨zs, H2, I3, rz, l2, q2⟩ => ⟨I3.kIn, ?_⟩
    rw [hks]
    exact wpAny_call (runAtK (us := []) (vs := []) F hb hr (passAt tk σ) I3 .nil rz rfl l2 q2)
  · unfold callM permA at h
    refine qk ρ T S G H L M' σ _ hl ft sl ?_
    cases er : mz ρ T S with
    | bad => rw [er] at h; exact h
    | exn z T1 S1 => rw [er] at h; exact h
    | ok zs T1 S1 =>
      rw [er] at h
      intro G1 H1 L1 M1 xs e1 f1 r1
      have hl2 := hn2 ρ T S zs _ _ er
      have h2 : Sat ct X.K W G1 H1 L1 M1 σ (RepR X.K) Q (callF fm (pick π zs) T1 S1) := Sat.pre e1 h
      refine ⟨by rw [r1.length]; exact hl2, ?_⟩
      have r1 := reprs_pick r1 π
      have hln : (pick π zs).length = n := by
        rw [pick_len, hπn]
        rw [hl2]
        exact hpi
      unfold callF at h2
      cases ea : toAs (pick π zs) T1 with
      | none => rw [ea] at h2; exact (show False from h2).elim
      | some pr =>
        obtain ⟨as, T'⟩ := pr
        rw [ea] at h2
        dsimp only at h2
        obtain ⟨G2, x2, f2, r2⟩ := toAs_ok f1 r1 ea
        refine spF_of f2 r2 (by rw [← r2.length, r1.length]; exact hln) (Sat.pre x2 ?_)
        unfold resOf
        cases ef : fm as S1 with
        | ok r' S' => rw [ef] at h2; exact h2
        | exn z S' => rw [ef] at h2; exact h2
        | bad => rw [ef] at h2; exact h2
end
end RB
end
/-! text RNeD -/
section
set_option Elab.async false
set_option linter.all false
set_option maxRecDepth 100000
set_option maxHeartbeats 4000000
/-! RNeD: o != b, o an instance with an own == (and no own !=), b data or of the same class. -/
namespace PySem
open Sem (wp)
open Builtin
section
variable {prog : Program} {w : World} {A : Around} {E : Value → Shared → Prop} {h : Heap} {g : Array GenState} {d : Drawn} {t : Nat} {os : OsState} {C x f : Addr} {B : String} {bm : List Value} {b : Value}
theorem objNe_any (X : h.OwnEqNoNe x C f B bm) (hu : A.units < cLine) {Q : Fin → Shared → Prop}
    (hcall : wpAny (model prog w) A (call (.ref f) [.ref x, b]) (fun v s' => ∃ c, v = .bool c ∧ Q (.done (.ret (.bool (!c)))) s') E ⟨h, g, d, t, os⟩) :
    wpAny (model prog w) A (Builtin.«object.__ne__» ⟨[.ref x, b], []⟩) Q E ⟨h, g, d, t, os⟩ := by
  unfold Builtin.«object.__ne__»
  repeat (first
    | with_reducible refine wpAny_cRoomFor hu ?_
    | (refine wpAny_bind (m := callSpecialIfBound? (.ref x) (Str.ofString "__eq__") [b])
        (wpAny_callSpecialIfBound?_own X.ownEq (wpAny_mono hcall (fun r s' hr => by
          obtain ⟨c, rfl, hq⟩ := hr
          repeat (first | exact hq | exact wpAny_pure hq | exact wpAny_truthy_bool hq | (refine wpAny_bind (m := truthy (.bool _)) (wpAny_truthy_bool ?_)) | wp_step)) fun _ _ e => e)))
    | wp_step)
theorem tryCompare_ne_any (FB : CmpFacts B bm) (X : h.OwnEqNoNe x C f B bm) (hu : A.units + 1 < cLine) {Q : Option Value → Shared → Prop}
    (hcall : wpAny (model prog w) A.in1 (call (.ref f) [.ref x, b]) (fun v s' => ∃ c, v = .bool c ∧ Q (some (.bool (!c))) s') E ⟨h, g, d, t, os⟩) :
    wpAny (model prog w) A (tryCompare (.ref x) "__ne__" b) Q E ⟨h, g, d, t, os⟩ := by
  obtain ⟨o, of, nm, q, N, bs, hdct, sn, sub, ab, col, dd, k0, k1, k2, k3, k5, newId, mN, yv, hx, hc, hC, hn, _, _, _, _, _, hne⟩ := id X
  simp only [tryCompare]
  refine wpAny_bind (wpAny_callSpecialIfBound?_inst hx hc hC hn hne FB.mro FB.ne (wpAny_call (codeAny_call_builtin FB.ne.plain F.cmpEntry_ne
    (wpAny_check_slot_inst F.cmpKind_ne F.cmpSplit_ne (F.cmpArgs_ne _ _) FB.hasObject hx hc hC
      (objNe_any (A := A.in1) X hu (wpAny_mono hcall (fun v s' hv => ?_) fun _ _ e => e))))))
  obtain ⟨c, rfl, hq⟩ := hv
  first | exact ⟨c, rfl, wpAny_pure hq⟩ | exact ⟨c, rfl, wpAny_pure (wpAny_pure hq)⟩ | exact ⟨c, rfl, hq⟩
theorem compareOp_ne_any {K : PySem.W.Frag} {tb : Value} (FB : CmpFacts B bm) (X : h.OwnEqNoNe x C f B bm) (XK : K.In h) (hb : PySem.W.Looks (model prog w) h (typeOf b) tb) (hnf : PySem.W.notFirst K C tb = true) (hu : A.units + 1 < cLine) {Q : Value → Shared → Prop}
    (hcall : wpAny (model prog w) A.in1 (call (.ref f) [.ref x, b]) (fun v s' => ∃ c, v = .bool c ∧ Q (.bool (!c)) s') E ⟨h, g, d, t, os⟩) :
    wpAny (model prog w) A (compareOp .NotEq (.ref x) b) Q E ⟨h, g, d, t, os⟩ := by
  unfold compareOp
  have X' := X
  obtain ⟨o, of, nm, q, N, bs, hdct, sn, sub, ab, col, dd, k0, k1, k2, k3, k5, newId, mN, yv, hx, hc, _⟩ := X'
  have one : wpAny (model prog w) A (tryCompare (.ref x) "__ne__" b) (fun r s' => ∃ v, r = some v ∧ Q v s') E ⟨h, g, d, t, os⟩ :=
    tryCompare_ne_any FB X hu (wpAny_mono hcall (fun v s' hv => by
      obtain ⟨c, rfl, hq⟩ := hv
      exact ⟨c, rfl, _, rfl, hq⟩) fun _ _ e => e)
  unfold richCompare
  simp only [oneThing_ref]
  refine wpAny_holding ?_
  refine wpAny_bind (wpAny_cRoomFor (Nat.lt_of_succ_lt hu) ?_)
  rw [cmpInfo_NotEq]
  dsimp only
  refine wpAny_bind (wpAny_typeOf_ref hx ?_)
  rw [hc]
  refine wpAny_bind (hb.here ?_)
  split
  · rename_i q
    have e : PySem.W.subIn K tb (.ref C) = some false := by
      rcases Bool.or_eq_true_iff.mp hnf with e | e
      · rw [beq_iff_eq.mp e] at q; simp at q
      · exact beq_iff_eq.mp e
    refine wpAny_bind ((PySem.W.looks_subIn XK e).here ?_)
    simp only [Bool.false_eq_true, if_false]
    refine wpAny_bind (wpAny_mono one (fun r s' z => ?_) fun _ _ e => e)
    obtain ⟨v, rfl, hq⟩ := z
    exact wpAny_pure hq
  · refine wpAny_bind (wpAny_pure ?_)
    simp only [Bool.false_eq_true, if_false]
    refine wpAny_bind (wpAny_mono one (fun r s' z => ?_) fun _ _ e => e)
    obtain ⟨v, rfl, hq⟩ := z
    exact wpAny_pure hq
end
end PySem
namespace RB
open PySem PySem.Spec PyProof.Rows L2
/-- a != b, a an instance, b data or of the same class -/
def neJ (cls : Str) (fm : FM) (a b : Rv) (T S : Sto) : Res Rv := if insNo cls none a S = true ∧ sideB cls b S = true then match fm [a, b] S with
  | .ok (.v (.bool r)) S' => .ok (.v (.bool (!r))) T S'
  | _ => .bad else .bad
section
variable {ct : Str → Option Addr} {X : Cx} [WC X.K] {W : WX} {cls : Str} {f : Addr} {k : Nat} {fm : FM}
theorem ops_neJ (ho : oeB X.K (He.ga X.K cls) f = true) (hcm : cmB X.K (He.ga X.K cls) f "__eq__" = true) (F : Dfi X.prog X.w X.K X.mg X.base ct f k 2 fm) (hr : Room (k + 1) X.A) (hu : X.A.units + 1 < cLine) : OpS ct X W (compareOp .NotEq) (neJ cls fm) := by
  obtain ⟨_, _, _, h6⟩ := cmB_ok hcm
  refine ⟨fun x y H Q => ∃ a dx fs, x = .ref a ∧ H a = some (.ins (He.ga X.K cls) dx fs) ∧ Side X.K cls y H ∧ spF ct X.K 2 fm [.ref a, y] H (fun v H' => ∃ r, v = .bl r ∧ Q (.bl (!r)) H') (fun _ _ _ => False),
    fun pins s σ H x y v u Q I rx ry h => ?_, fun x y a b T S G H L M σ Q ft ra rb h => ?_⟩
  · obtain ⟨a, dx, fs, rfl, ha, sd, h⟩ := h
    cases rx
    obtain ⟨mA, O, _⟩ := ins_get I.hok ha
    have own := oeB_ok I.kIn ho O.obj rfl
    have run := F.r X.A.in1 X.stack s H [.ref a, u] [.ref a, y] _ _ hr.in1 I.env0.in1 (.cons rfl (.cons ry .nil)) h
    have hcl : wpAny (model X.prog X.w) X.A.in1 (call (.ref f) [.ref a, u]) (fun v s' => ∃ c, v = .bool c ∧ EP X pins σ Q (.bool (!c)) s') X.xe s := wpAny_call (codeAny_mono run fun z s' hz => by
      match z, hz with
      | .error e, hz =>
        obtain ⟨_, _, _, _, _, _, _, _, _, _, _, _, hE⟩ := hz
        exact hE.elim
      | .ok (.ret u), hz =>
        obtain ⟨w, H', J, rw', r, rfl, hq⟩ := I.after hz
        cases rw'
        exact ⟨r, rfl, .bl (!r), H', J, rfl, hq⟩)
    have main : ∀ tb, PySem.W.Looks (model X.prog X.w) s.heap (typeOf u) tb → PySem.W.notFirst X.K (He.ga X.K cls) tb = true → wpAny (model X.prog X.w) X.A (compareOp .NotEq (.ref a) u) (EP X pins σ Q) X.xe s := fun tb hb hn => by
      have hk := I.kIn
      obtain ⟨hp, gg, dd, tk, os⟩ := s
      exact PySem.compareOp_ne_any PySem.F.cmp_object own hk hb hn hu hcl
    rcases sd with ⟨t, ht, ty⟩ | ⟨z, dz, gs, rfl, hz⟩
    · obtain ⟨P, Z, p, _⟩ := kit_of I ry ty
      exact main _ (Z.ty _ _ I.kIn p) (h6 t ht)
    · cases (show u = Value.ref z from ry)
      obtain ⟨oz, odz, J2, _⟩ := StX.insC_at I (.inr ⟨dz, gs, hz⟩)
      exact main _ J2.type (by unfold PySem.W.notFirst; rw [beq_self_eq_true, Bool.true_or])
  · unfold neJ at h
    split at h
    · rename_i hs
      obtain ⟨j, a', dx, fs, ws, rfl, hj, rfl, hx, hf, _⟩ := ins_at ft ra hs.1
      have hsd := side_ok ft rb hs.2
      have hloc : (∃ d, b = .v d ∧ Rep X.K G y d) ∨ ∃ j2 b', b = .loc j2 ∧ L[j2]? = some b' ∧ y = .ref b' := by
        have e := hs.2
        unfold sideB at e
        rcases Bool.or_eq_true_iff.mp e with e | e
        · cases b with
          | v d => exact .inl ⟨d, rfl, rb⟩
          | _ => cases e
        · obtain ⟨j2, b', dy, gs, zs, rfl, hj2, rfl, hy, hg, _⟩ := ins_at ft rb e
          exact .inr ⟨j2, b', rfl, hj2, rfl⟩
      refine ⟨a', dx, ws, rfl, hx, hsd, rfl, G, L, S, [.loc j, b], ft.dropM, .cons ⟨a', hj, rfl⟩ (.cons (by
        rcases hloc with ⟨d, rfl, hd⟩ | ⟨j2, b', rfl, hj2, rfl⟩
        · exact hd
        · exact ⟨b', hj2, rfl⟩) .nil), ?_⟩
      cases e : fm [.loc j, b] S with
      | bad => rw [e] at h; exact (show False from h).elim
      | exn z S' => rw [e] at h; exact (show False from h).elim
      | ok r S' =>
        rw [e] at h
        intro G3 H3 L3 y x3 f3 r3
        obtain ⟨x4, f4⟩ := ft.back x3 f3
        cases r with
        | v d =>
          cases d with
          | bool q =>
            cases (show Rep X.K G3 y (.bool q) from r3)
            exact ⟨q, rfl, h G3 H3 L3 M _ x4 f4 (show Rep X.K _ _ _ from .bl (!q))⟩
          | _ => exact (show False from h).elim
        | _ => exact (show False from h).elim
    · exact (show False from h).elim
end
end RB
end
/-! text K35all -/
section
set_option Elab.async false
set_option linter.all false
set_option maxRecDepth 100000
set_option maxHeartbeats 4000000
namespace RB.Law
open PySem PySem.Spec PyProof.Rows L2 RB
/-- built-ins that stand as they are -/
structure Bt (mg : Str → Option Value) : Prop where
  n_bool : mg "bool" = none
  n_int : mg "int" = none
  n_isinstance : mg "isinstance" = none
  n_len : mg "len" = none
  n_list : mg "list" = none
  n_range : mg "range" = none
  n_str : mg "str" = none
  n_tuple : mg "tuple" = none
/-- the module's constants -/
structure Ct (mg : Str → Option Value) : Prop where
  n_ : True
def hm__law_said_InvalidPaper : D → D → SM := fun z1 z2 => (seqS (setS 3 (ownM (consA (cst (.bool true)) (consA (cst (.bool false)) (consA (cst (.bool false)) nilA))))) (seqS (dropS (methM isL appendR (getV 3) (consA (cst (.bool false)) nilA))) (seqS (ifS (andM (asB (bin o_eq (getV 3) (lstM (consA (cst (.bool true)) (consA (cst (.bool false)) (consA (cst (.bool false)) (consA (cst (.bool false)) nilA))))))) (asB (cst (.bool true)))) (setS 1 (tupM (consA (cst (.str (Str.ofString "paper"))) (consA (cst z1) (consA (cst z2) nilA))))) skipS) (ifS (andM (asB (bin o_eq (getV 3) (lstM (consA (cst (.bool false)) (consA (cst (.bool true)) (consA (cst (.bool false)) (consA (cst (.bool false)) nilA))))))) (andM (asB (cst (.bool false))) (notM (asB (cst (.bool false)))))) (setS 1 (tupM (consA (cst (.str (Str.ofString "usable"))) (consA (cst z1) (consA (cst z2) nilA))))) skipS))))
def hm__law_said_NotUsable : D → D → SM := fun z1 z2 => (seqS (setS 3 (ownM (consA (cst (.bool false)) (consA (cst (.bool true)) (consA (cst (.bool false)) nilA))))) (seqS (dropS (methM isL appendR (getV 3) (consA (cst (.bool false)) nilA))) (seqS (ifS (andM (asB (bin o_eq (getV 3) (lstM (consA (cst (.bool true)) (consA (cst (.bool false)) (consA (cst (.bool false)) (consA (cst (.bool false)) nilA))))))) (asB (cst (.bool false)))) (setS 1 (tupM (consA (cst (.str (Str.ofString "paper"))) (consA (cst z1) (consA (cst z2) nilA))))) skipS) (ifS (andM (asB (bin o_eq (getV 3) (lstM (consA (cst (.bool false)) (consA (cst (.bool true)) (consA (cst (.bool false)) (consA (cst (.bool false)) nilA))))))) (andM (asB (cst (.bool true))) (notM (asB (cst (.bool false)))))) (setS 1 (tupM (consA (cst (.str (Str.ofString "usable"))) (consA (cst z1) (consA (cst z2) nilA))))) skipS))))
def hcs__law_said : List HcG := [⟨"InvalidPaper", "word", "at", hm__law_said_InvalidPaper⟩, ⟨"NotUsable", "word", "at", hm__law_said_NotUsable⟩]
/-- exceptions, the defs that hear them, the tables -/
structure Xt (P : Program) (w : World) (K : PySem.W.Frag) [WC K] (mg : Str → Option Value) (base : Heap) (ct : Str → Option Addr) : Prop where
  TL : TabsOk K mg base
  wc : WC.w K = w
  x_InvalidPaper : Exc P K mg ct "InvalidPaper" "word" "at"
  x_NotUsable : Exc P K mg ct "NotUsable" "word" "at"
  h__law_said : HrdG P w K mg base ct "_law_said" "told" 4 1 hcs__law_said
  i_Standing : Cls K (He.ga K "Standing") ∧ mg "Standing" = some (.ref (He.ga K "Standing"))
  k_Standing : Mk K (He.ga K "Standing") (He.ma K (He.ga K "Standing") "__init__")
  n_Standing_right : NoAttr K (He.ga K "Standing") "right"
  n_Standing_wrong : NoAttr K (He.ga K "Standing") "wrong"
  m_Standing___call__ : Meth K (He.ga K "Standing") "__call__" (He.ma K (He.ga K "Standing") "__call__")
  m_Standing___str__ : Meth K (He.ga K "Standing") "__str__" (He.ma K (He.ga K "Standing") "__str__")
  p_Standing_base : PropOf K (He.ga K "Standing") "base" (He.ma K (He.ga K "Standing") "base") (prA K "Standing" "base")
  s_Standing : isIB K "Standing" = true
  e_Standing : oeB K (He.ga K "Standing") (He.ma K (He.ga K "Standing") "__eq__") = true
  o_Standing : StX.CallO K (He.ga K "Standing") (He.ma K (He.ga K "Standing") "__call__")
  b_Standing_add : opB K (He.ga K "Standing") (He.ma K (He.ga K "Standing") "__add__") "add" = true
  q_Standing___eq__ : cmB K (He.ga K "Standing") (He.ma K (He.ga K "Standing") "__eq__") "__eq__" = true
  q_Standing___le__ : cmB K (He.ga K "Standing") (He.ma K (He.ga K "Standing") "__le__") "__le__" = true
  q_Standing___neg__ : cmB K (He.ga K "Standing") (He.ma K (He.ga K "Standing") "__neg__") "__neg__" = true
  q_Standing___radd__ : cmB K (He.ga K "Standing") (He.ma K (He.ga K "Standing") "__radd__") "__radd__" = true
  r_Standing : ClX.CRead K (He.ga K "Standing") (.type "type")
  t_Standing_open_at : SMet K (He.ga K "Standing") (.type "type") "open_at" (He.ma K (He.ga K "Standing") "open_at") (He5.wf K (He.ga K "Standing") "staticmethod" "open_at")
variable {P : Program} {w : World} {K : PySem.W.Frag} [WC K] {mg : Str → Option Value} {base : Heap} {ct : Str → Option Addr}
theorem sc__law_said : FnScope ["_law_ask", "_law_found", "e", "_law_sorts"] ["_law_ask"] (defScope s__law_said) := ⟨rfl, rfl, rfl, by decide +kernel, rfl, by decide +kernel, by decide +kernel⟩
def hb0__law_said : Stmt := (suiteOfG (defBody s__law_said)).headD (.Pass ⟨0, 0, 0, 0⟩)
def hbt__law_said : List Stmt := (suiteOfG (defBody s__law_said)).tail
def qh__law_said (i : _root_.Fin 13) : Pos := ([⟨110, 4, 110, 14⟩, ⟨110, 4, 110, 30⟩, ⟨112, 8, 112, 18⟩, ⟨112, 22, 112, 28⟩, ⟨112, 30, 112, 38⟩, ⟨112, 30, 112, 40⟩, ⟨112, 21, 112, 41⟩, ⟨112, 8, 112, 41⟩, ⟨113, 11, 113, 23⟩, ⟨113, 4, 119, 49⟩, ⟨111, 4, 119, 49⟩, ⟨120, 11, 120, 21⟩, ⟨120, 4, 120, 21⟩] : List Pos).getD i.val ⟨0, 0, 0, 0⟩
def jh__law_said (i : _root_.Fin 2) : Nat := ([0, 0] : List Nat).getD i.val 0
theorem hs__law_said_InvalidPaper (B : Bt mg) {g : Addr} (hxf : XfC K (He.ga K "InvalidPaper")) (hx1 : PySem.W.findIn K (.ref (He.ga K "InvalidPaper")) "word" = some none) (hx2 : PySem.W.findIn K (.ref (He.ga K "InvalidPaper")) "at" = some none) (ec : ExcC K (He.ga K "InvalidPaper")) (k_InvalidPaper_BookError : PySem.W.kitOne K (.ref (He.ga K "InvalidPaper")) (.ref (He.ga K "BookError")) = some false) (k_InvalidPaper_InvalidPaper : PySem.W.kitOne K (.ref (He.ga K "InvalidPaper")) (.ref (He.ga K "InvalidPaper")) = some true) (k_InvalidPaper_NotCalm : PySem.W.kitOne K (.ref (He.ga K "InvalidPaper")) (.ref (He.ga K "NotCalm")) = some false) (k_InvalidPaper_NotUsable : PySem.W.kitOne K (.ref (He.ga K "InvalidPaper")) (.ref (He.ga K "NotUsable")) = some false) (k_InvalidPaper_PaperError : PySem.W.kitOne K (.ref (He.ga K "InvalidPaper")) (.ref (He.ga K "PaperError")) = some true) (k_InvalidPaper_TextError : PySem.W.kitOne K (.ref (He.ga K "InvalidPaper")) (.ref (He.ga K "TextError")) = some false) (k_InvalidPaper_WatchError : PySem.W.kitOne K (.ref (He.ga K "InvalidPaper")) (.ref (He.ga K "WatchError")) = some false) (m_BookError : mg "BookError" = some (.ref (He.ga K "BookError"))) (m_InvalidPaper : mg "InvalidPaper" = some (.ref (He.ga K "InvalidPaper"))) (m_NotCalm : mg "NotCalm" = some (.ref (He.ga K "NotCalm"))) (m_NotUsable : mg "NotUsable" = some (.ref (He.ga K "NotUsable"))) (m_PaperError : mg "PaperError" = some (.ref (He.ga K "PaperError"))) (m_TextError : mg "TextError" = some (.ref (He.ga K "TextError"))) (m_WatchError : mg "WatchError" = some (.ref (He.ga K "WatchError"))) (cdg : Value) (A : Around) (stk : List Env) (s : Shared) (H : Hp) (a : Addr) (oe : Obj) (cls : Value) (d : Option Addr) (pn : List (Addr × Obj)) (hr0 : Room 2 A) (hz : Zc cls d oe) (hf : ∃ vs, oe.data = .fields vs) :
    SSxs ct ((cxH P w K mg base ["_law_ask", "_law_found", "e", "_law_sorts"] "_law_said" (defScope s__law_said) g cdg A stk s H).suite a ((a, oe) :: pn)) 2 a cls d (He.ga K "InvalidPaper") "word" "at" (hb0__law_said :: hbt__law_said) hm__law_said_InvalidPaper := by
  have sc := sc__law_said
  have hr := hr0.deeper (envOfC "_law_said" (defScope s__law_said) s.heap.objs.size g cdg)
  exact (ssxs_cons (ssx_set (j := 3) (sex_own (sax_cons (sex_isD ec k_InvalidPaper_PaperError hz hf rfl B.n_isinstance rfl m_PaperError rfl rfl rfl rfl rfl rfl rfl rfl) (sax_cons (sex_isD ec k_InvalidPaper_BookError hz hf rfl B.n_isinstance rfl m_BookError rfl rfl rfl rfl rfl rfl rfl rfl) (sax_cons (sex_isD ec k_InvalidPaper_WatchError hz hf rfl B.n_isinstance rfl m_WatchError rfl rfl rfl rfl rfl rfl rfl rfl) sax_nil rfl) rfl) rfl)) sc.nd rfl (by decide) (.inl rfl) rfl (.inr rfl)) (ssxs_cons (ssx_expr (sex_append (sex_of (se_var (i := 3) rfl (.inl rfl) rfl rfl)) (sax_cons (sex_isD ec k_InvalidPaper_TextError hz hf rfl B.n_isinstance rfl m_TextError rfl rfl rfl rfl rfl rfl rfl rfl) sax_nil rfl) rfl rfl rfl rfl rfl) rfl) (ssxs_cons (ssx_if (stx_w (swx_and (stx_cmp (ops_eq hr.units) (sex_of (se_var (i := 3) rfl (.inl rfl) rfl rfl)) (sex_of (se_lst (sa_cons se_bl (sa_cons se_bl (sa_cons se_bl (sa_cons se_bl sa_nil rfl) rfl) rfl) rfl))) rfl) (swx_and1 (stx_val (sex_isD ec k_InvalidPaper_InvalidPaper hz hf rfl B.n_isinstance rfl m_InvalidPaper rfl rfl rfl rfl rfl rfl rfl rfl) (fun _ => rfl))))) (ssxs_one (ssx_set (j := 1) (sex_tup (sax_cons (sex_of se_str) (sax_cons (sex_f1 hxf hx1 hz hf rfl rfl rfl rfl rfl) (sax_cons (sex_f2 hxf hx2 hz hf rfl rfl rfl rfl rfl) sax_nil rfl) rfl) rfl)) sc.nd rfl (by decide) (.inl rfl) rfl (.inr rfl))) ssxs_nil) (ssxs_one (ssx_if (stx_w (swx_and (stx_cmp (ops_eq hr.units) (sex_of (se_var (i := 3) rfl (.inl rfl) rfl rfl)) (sex_of (se_lst (sa_cons se_bl (sa_cons se_bl (sa_cons se_bl (sa_cons se_bl sa_nil rfl) rfl) rfl) rfl))) rfl) (swx_and (stx_val (sex_isD ec k_InvalidPaper_NotUsable hz hf rfl B.n_isinstance rfl m_NotUsable rfl rfl rfl rfl rfl rfl rfl rfl) (fun _ => rfl)) (swx_and1 (stx_not (stx_val (sex_isD ec k_InvalidPaper_NotCalm hz hf rfl B.n_isinstance rfl m_NotCalm rfl rfl rfl rfl rfl rfl rfl rfl) (fun _ => rfl))))))) (ssxs_one (ssx_set (j := 1) (sex_tup (sax_cons (sex_of se_str) (sax_cons (sex_f1 hxf hx1 hz hf rfl rfl rfl rfl rfl) (sax_cons (sex_f2 hxf hx2 hz hf rfl rfl rfl rfl rfl) sax_nil rfl) rfl) rfl)) sc.nd rfl (by decide) (.inl rfl) rfl (.inr rfl))) ssxs_nil)))))
theorem hs__law_said_NotUsable (B : Bt mg) {g : Addr} (hxf : XfC K (He.ga K "NotUsable")) (hx1 : PySem.W.findIn K (.ref (He.ga K "NotUsable")) "word" = some none) (hx2 : PySem.W.findIn K (.ref (He.ga K "NotUsable")) "at" = some none) (ec : ExcC K (He.ga K "NotUsable")) (k_NotUsable_BookError : PySem.W.kitOne K (.ref (He.ga K "NotUsable")) (.ref (He.ga K "BookError")) = some true) (k_NotUsable_InvalidPaper : PySem.W.kitOne K (.ref (He.ga K "NotUsable")) (.ref (He.ga K "InvalidPaper")) = some false) (k_NotUsable_NotCalm : PySem.W.kitOne K (.ref (He.ga K "NotUsable")) (.ref (He.ga K "NotCalm")) = some false) (k_NotUsable_NotUsable : PySem.W.kitOne K (.ref (He.ga K "NotUsable")) (.ref (He.ga K "NotUsable")) = some true) (k_NotUsable_PaperError : PySem.W.kitOne K (.ref (He.ga K "NotUsable")) (.ref (He.ga K "PaperError")) = some false) (k_NotUsable_TextError : PySem.W.kitOne K (.ref (He.ga K "NotUsable")) (.ref (He.ga K "TextError")) = some false) (k_NotUsable_WatchError : PySem.W.kitOne K (.ref (He.ga K "NotUsable")) (.ref (He.ga K "WatchError")) = some false) (m_BookError : mg "BookError" = some (.ref (He.ga K "BookError"))) (m_InvalidPaper : mg "InvalidPaper" = some (.ref (He.ga K "InvalidPaper"))) (m_NotCalm : mg "NotCalm" = some (.ref (He.ga K "NotCalm"))) (m_NotUsable : mg "NotUsable" = some (.ref (He.ga K "NotUsable"))) (m_PaperError : mg "PaperError" = some (.ref (He.ga K "PaperError"))) (m_TextError : mg "TextError" = some (.ref (He.ga K "TextError"))) (m_WatchError : mg "WatchError" = some (.ref (He.ga K "WatchError"))) (cdg : Value) (A : Around) (stk : List Env) (s : Shared) (H : Hp) (a : Addr) (oe : Obj) (cls : Value) (d : Option Addr) (pn : List (Addr × Obj)) (hr0 : Room 2 A) (hz : Zc cls d oe) (hf : ∃ vs, oe.data = .fields vs) :
    SSxs ct ((cxH P w K mg base ["_law_ask", "_law_found", "e", "_law_sorts"] "_law_said" (defScope s__law_said) g cdg A stk s H).suite a ((a, oe) :: pn)) 2 a cls d (He.ga K "NotUsable") "word" "at" (hb0__law_said :: hbt__law_said) hm__law_said_NotUsable := by
  have sc := sc__law_said
  have hr := hr0.deeper (envOfC "_law_said" (defScope s__law_said) s.heap.objs.size g cdg)
  exact (ssxs_cons (ssx_set (j := 3) (sex_own (sax_cons (sex_isD ec k_NotUsable_PaperError hz hf rfl B.n_isinstance rfl m_PaperError rfl rfl rfl rfl rfl rfl rfl rfl) (sax_cons (sex_isD ec k_NotUsable_BookError hz hf rfl B.n_isinstance rfl m_BookError rfl rfl rfl rfl rfl rfl rfl rfl) (sax_cons (sex_isD ec k_NotUsable_WatchError hz hf rfl B.n_isinstance rfl m_WatchError rfl rfl rfl rfl rfl rfl rfl rfl) sax_nil rfl) rfl) rfl)) sc.nd rfl (by decide) (.inl rfl) rfl (.inr rfl)) (ssxs_cons (ssx_expr (sex_append (sex_of (se_var (i := 3) rfl (.inl rfl) rfl rfl)) (sax_cons (sex_isD ec k_NotUsable_TextError hz hf rfl B.n_isinstance rfl m_TextError rfl rfl rfl rfl rfl rfl rfl rfl) sax_nil rfl) rfl rfl rfl rfl rfl) rfl) (ssxs_cons (ssx_if (stx_w (swx_and (stx_cmp (ops_eq hr.units) (sex_of (se_var (i := 3) rfl (.inl rfl) rfl rfl)) (sex_of (se_lst (sa_cons se_bl (sa_cons se_bl (sa_cons se_bl (sa_cons se_bl sa_nil rfl) rfl) rfl) rfl))) rfl) (swx_and1 (stx_val (sex_isD ec k_NotUsable_InvalidPaper hz hf rfl B.n_isinstance rfl m_InvalidPaper rfl rfl rfl rfl rfl rfl rfl rfl) (fun _ => rfl))))) (ssxs_one (ssx_set (j := 1) (sex_tup (sax_cons (sex_of se_str) (sax_cons (sex_f1 hxf hx1 hz hf rfl rfl rfl rfl rfl) (sax_cons (sex_f2 hxf hx2 hz hf rfl rfl rfl rfl rfl) sax_nil rfl) rfl) rfl)) sc.nd rfl (by decide) (.inl rfl) rfl (.inr rfl))) ssxs_nil) (ssxs_one (ssx_if (stx_w (swx_and (stx_cmp (ops_eq hr.units) (sex_of (se_var (i := 3) rfl (.inl rfl) rfl rfl)) (sex_of (se_lst (sa_cons se_bl (sa_cons se_bl (sa_cons se_bl (sa_cons se_bl sa_nil rfl) rfl) rfl) rfl))) rfl) (swx_and (stx_val (sex_isD ec k_NotUsable_NotUsable hz hf rfl B.n_isinstance rfl m_NotUsable rfl rfl rfl rfl rfl rfl rfl rfl) (fun _ => rfl)) (swx_and1 (stx_not (stx_val (sex_isD ec k_NotUsable_NotCalm hz hf rfl B.n_isinstance rfl m_NotCalm rfl rfl rfl rfl rfl rfl rfl rfl) (fun _ => rfl))))))) (ssxs_one (ssx_set (j := 1) (sex_tup (sax_cons (sex_of se_str) (sax_cons (sex_f1 hxf hx1 hz hf rfl rfl rfl rfl rfl) (sax_cons (sex_f2 hxf hx2 hz hf rfl rfl rfl rfl rfl) sax_nil rfl) rfl) rfl)) sc.nd rfl (by decide) (.inl rfl) rfl (.inr rfl))) ssxs_nil)))))
theorem sc_is_integer : FnScope ["thing"] ["thing"] (defScope s_is_integer) := ⟨rfl, rfl, rfl, by decide +kernel, rfl, by decide +kernel, by decide +kernel⟩
def m_is_integer : SM :=
    (retS (andV (isiM .int (getV 0)) (notV (isiM .bool (getV 0)))))
def f_is_integer : FM := fnM 1 m_is_integer
theorem ok_is_integer {f : Addr} {fd : FuncData} (F : Fun K "is_integer" "is_integer" s_is_integer f fd) (hm : mg "is_integer" = some (.ref f)) (B : Bt mg) (C : Ct mg) (Z : Xt P w K mg base ct)  : Dfn P w K mg base ct "is_integer" 1 1 f_is_integer := by
  have b : Binds K fd ["thing"] [] := F.binds (ps := ["thing"]) (fun _ _ _ _ _ _ us hl => match us, hl with | [_], _ => (by kernel_rfl))
  have sc := sc_is_integer
  have G : FnOk P w K mg base (L2.CX P w) 1 f fd ["thing"] (spF ct K 1 f_is_integer) := fn_okL Z.TL (N := ["thing"]) F sc_is_integer (k := 0) (m := m_is_integer) (fun cdv A outer s H E hcd hr => by
    have tk : Takes (cxOf (L2.CX P w) P w K mg base ["thing"] "is_integer" (defScope s_is_integer) f cdv A outer s H E) (WEx E) := takes_of rfl rfl rfl rfl
    exact (sss_one (ss_ret (se_and (se_isi .int rfl B.n_isinstance rfl B.n_int (by decide +kernel) (by decide) rfl (se_var (i := 0) rfl (.inl rfl) rfl rfl) rfl rfl rfl) (se_one (se_not (se_isi .bool rfl B.n_isinstance rfl B.n_bool (by decide +kernel) (by decide) rfl (se_var (i := 0) rfl (.inl rfl) rfl rfl) rfl rfl rfl)))))))
  exact ⟨f, fd, ["thing"], G, F.kp, b, hm⟩
theorem sc_is_number : FnScope ["thing"] ["thing"] (defScope s_is_number) := ⟨rfl, rfl, rfl, by decide +kernel, rfl, by decide +kernel, by decide +kernel⟩
def m_is_number : SM :=
    (retS (andV (callM (callF f_is_integer) (consA (getV 0) nilA)) (bin o_ge (getV 0) (cst (.int (0))))))
def f_is_number : FM := fnM 1 m_is_number
theorem ok_is_number {f : Addr} {fd : FuncData} (F : Fun K "is_number" "is_number" s_is_number f fd) (hm : mg "is_number" = some (.ref f)) (B : Bt mg) (C : Ct mg) (Z : Xt P w K mg base ct) (d_is_integer : Dfn P w K mg base ct "is_integer" 1 1 f_is_integer) : Dfn P w K mg base ct "is_number" 2 1 f_is_number := by
  have b : Binds K fd ["thing"] [] := F.binds (ps := ["thing"]) (fun _ _ _ _ _ _ us hl => match us, hl with | [_], _ => (by kernel_rfl))
  have sc := sc_is_number
  have G : FnOk P w K mg base (L2.CX P w) 2 f fd ["thing"] (spF ct K 1 f_is_number) := fn_okL Z.TL (N := ["thing"]) F sc_is_number (k := 1) (m := m_is_number) (fun cdv A outer s H E hcd hr => by
    have tk : Takes (cxOf (L2.CX P w) P w K mg base ["thing"] "is_number" (defScope s_is_number) f cdv A outer s H E) (WEx E) := takes_of rfl rfl rfl rfl
    exact (sss_one (ss_ret (se_and (se_fn d_is_integer hr (by decide) tk rfl (san_cons (se_var (i := 0) rfl (.inl rfl) rfl rfl) san_nil rfl) rfl rfl rfl) (se_one (se_cmp (ops_ge hr.units) (se_var (i := 0) rfl (.inl rfl) rfl rfl) se_int rfl))))))
  exact ⟨f, fd, ["thing"], G, F.kp, b, hm⟩
theorem sc__law_feed : FnScope ["_law_script"] ["_law_script"] (defScope s__law_feed) := ⟨rfl, rfl, rfl, by decide +kernel, rfl, by decide +kernel, by decide +kernel⟩
def m__law_feed : SM :=
    (retS (dispM (pcons (cst (.str (Str.ofString "cells"))) (callM (c_list false) (consA (cutM (getV 0) none (some (cst (.int (63))))) nilA)) (pcons (cst (.str (Str.ofString "at"))) (cst (.int (0))) (pcons (cst (.str (Str.ofString "left"))) (cst (.int (0))) (pcons (cst (.str (Str.ofString "count"))) (cst (.int (0))) pnil))))))
def f__law_feed : FM := fnM 1 m__law_feed
theorem ok__law_feed {f : Addr} {fd : FuncData} (F : Fun K "_law_feed" "_law_feed" s__law_feed f fd) (hm : mg "_law_feed" = some (.ref f)) (B : Bt mg) (C : Ct mg) (Z : Xt P w K mg base ct)  : Dfn P w K mg base ct "_law_feed" 1 1 f__law_feed := by
  have b : Binds K fd ["_law_script"] [] := F.binds (ps := ["_law_script"]) (fun _ _ _ _ _ _ us hl => match us, hl with | [_], _ => (by kernel_rfl))
  have sc := sc__law_feed
  have G : FnOk P w K mg base (L2.CX P w) 1 f fd ["_law_script"] (spF ct K 1 f__law_feed) := fn_okL Z.TL (N := ["_law_script"]) F sc__law_feed (k := 0) (m := m__law_feed) (fun cdv A outer s H E hcd hr => by
    have tk : Takes (cxOf (L2.CX P w) P w K mg base ["_law_script"] "_law_feed" (defScope s__law_feed) f cdv A outer s H E) (WEx E) := takes_of rfl rfl rfl rfl
    exact (sss_one (ss_ret (se_disp (sp_cons se_str (se_callTy (cs_list false) rfl B.n_list (by decide +kernel) (sa_cons (se_cut (se_var (i := 0) rfl (.inl rfl) rfl rfl) so_none (so_some se_int)) sa_nil rfl) (by decide) rfl rfl rfl) (sp_cons se_str se_int (sp_cons se_str se_int (sp_cons se_str se_int sp_nil)))) rfl rfl (fun z => by cases z) (by decide)))))
  exact ⟨f, fd, ["_law_script"], G, F.kp, b, hm⟩
theorem sc__law_draw : FnScope ["_law_feed_here", "_law_many", "_law_figure", "_law_at", "_law_cell_now", "_law_mixed"] ["_law_feed_here", "_law_many"] (defScope s__law_draw) := ⟨rfl, rfl, rfl, by decide +kernel, rfl, by decide +kernel, by decide +kernel⟩
def m__law_draw : SM :=
    (seqS (dputS (getV 0) (cst (.str (Str.ofString "count"))) (bin o_add (bin dgetR (getV 0) (cst (.str (Str.ofString "count")))) (cst (.int (1)))))
    (seqS (ifS (asB (bin o_gt (bin dgetR (getV 0) (cst (.str (Str.ofString "left")))) (cst (.int (0))))) (seqS (setS 2 (bin o_mod (callM c_int (consA (bin dgetR (getV 0) (cst (.str (Str.ofString "left")))) nilA)) (getV 1)))
    (seqS (dputS (getV 0) (cst (.str (Str.ofString "left"))) (bin o_div (bin dgetR (getV 0) (cst (.str (Str.ofString "left")))) (getV 1)))
    (retS (getV 2)))) skipS)
    (seqS (setS 3 (bin dgetR (getV 0) (cst (.str (Str.ofString "at")))))
    (seqS (dputS (getV 0) (cst (.str (Str.ofString "at"))) (bin o_add (getV 3) (cst (.int (1)))))
    (seqS (setS 4 (ifM (asB (bin o_ne (bin dgetR (getV 0) (cst (.str (Str.ofString "cells")))) (lstM nilA))) (bin o_ix (bin dgetR (getV 0) (cst (.str (Str.ofString "cells")))) (bin o_mod (callM c_int (consA (getV 3) nilA)) (callM c_len (consA (bin dgetR (getV 0) (cst (.str (Str.ofString "cells")))) nilA)))) (cst (.int (96905)))))
    (seqS (ifS (andM (asB (bin o_ge (getV 4) (bin o_pow (cst (.int (10))) (cst (.int (18)))))) (asB (bin o_lt (getV 3) (callM c_len (consA (bin dgetR (getV 0) (cst (.str (Str.ofString "cells")))) nilA))))) (seqS (dputS (getV 0) (cst (.str (Str.ofString "left"))) (bin o_div (getV 4) (getV 1)))
    (retS (bin o_mod (callM c_int (consA (getV 4) nilA)) (getV 1)))) skipS)
    (seqS (setS 5 (bin o_mod (callM c_int (consA (bin o_add (bin o_add (bin o_mod (callM c_int (consA (getV 4) nilA)) (cst (.int (1000030121)))) (bin o_mul (cst (.int (103599))) (bin dgetR (getV 0) (cst (.str (Str.ofString "count")))))) (cst (.int (186)))) nilA)) (cst (.int (2147483579)))))
    (seqS (setS 5 (bin o_mod (callM c_int (consA (bin o_add (bin o_add (bin o_mul (getV 5) (getV 5)) (bin o_mul (cst (.int (7700353))) (bin dgetR (getV 0) (cst (.str (Str.ofString "count")))))) (cst (.int (125)))) nilA)) (cst (.int (2147483549)))))
    (retS (bin o_mod (callM c_int (consA (bin o_div (bin o_mod (callM c_int (consA (bin o_add (bin o_mul (getV 5) (getV 5)) (bin o_mul (cst (.int (271))) (getV 5))) nilA)) (cst (.int (2147483543)))) (cst (.int (16)))) nilA)) (getV 1)))))))))))
def f__law_draw : FM := fnM 6 m__law_draw
theorem ok__law_draw {f : Addr} {fd : FuncData} (F : Fun K "_law_draw" "_law_draw" s__law_draw f fd) (hm : mg "_law_draw" = some (.ref f)) (B : Bt mg) (C : Ct mg) (Z : Xt P w K mg base ct)  : Dfn P w K mg base ct "_law_draw" 1 2 f__law_draw := by
  have b : Binds K fd ["_law_feed_here", "_law_many"] [] := F.binds (ps := ["_law_feed_here", "_law_many"]) (fun _ _ _ _ _ _ us hl => match us, hl with | [_, _], _ => (by kernel_rfl))
  have sc := sc__law_draw
  have G : FnOk P w K mg base (L2.CX P w) 1 f fd ["_law_feed_here", "_law_many"] (spF ct K 2 f__law_draw) := fn_okL Z.TL (N := ["_law_feed_here", "_law_many", "_law_figure", "_law_at", "_law_cell_now", "_law_mixed"]) F sc__law_draw (k := 0) (m := m__law_draw) (fun cdv A outer s H E hcd hr => by
    have tk : Takes (cxOf (L2.CX P w) P w K mg base ["_law_feed_here", "_law_many", "_law_figure", "_law_at", "_law_cell_now", "_law_mixed"] "_law_draw" (defScope s__law_draw) f cdv A outer s H E) (WEx E) := takes_of rfl rfl rfl rfl
    exact (sss_cons (ss_dput (hu_of hr) (se_var (i := 0) rfl (.inl rfl) rfl rfl) se_str (se_op ops_add (se_dget (hu_of hr) (se_var (i := 0) rfl (.inl rfl) rfl rfl) se_str (fun _ _ => rfl)) se_int) rfl)
      (sss_cons (ss_if (st_cmp (ops_gt hr.units) (se_dget (hu_of hr) (se_var (i := 0) rfl (.inl rfl) rfl rfl) se_str (fun _ _ => rfl)) se_int rfl) (sss_cons (ss_set (i := 2) (se_op ops_mod (se_callTy cs_int rfl B.n_int (by decide +kernel) (sa_cons (se_dget (hu_of hr) (se_var (i := 0) rfl (.inl rfl) rfl rfl) se_str (fun _ _ => rfl)) sa_nil rfl) (by decide) rfl rfl rfl) (se_var (i := 1) rfl (.inl rfl) rfl rfl)) sc.nd rfl (.inl rfl) rfl (.inr rfl))
      (sss_cons (ss_dput (hu_of hr) (se_var (i := 0) rfl (.inl rfl) rfl rfl) se_str (se_op ops_div (se_dget (hu_of hr) (se_var (i := 0) rfl (.inl rfl) rfl rfl) se_str (fun _ _ => rfl)) (se_var (i := 1) rfl (.inl rfl) rfl rfl)) rfl)
      (sss_one (ss_ret (se_var (i := 2) rfl (.inl rfl) rfl rfl))))) sss_nil)
      (sss_cons (ss_set (i := 3) (se_dget (hu_of hr) (se_var (i := 0) rfl (.inl rfl) rfl rfl) se_str (fun _ _ => rfl)) sc.nd rfl (.inl rfl) rfl (.inr rfl))
      (sss_cons (ss_dput (hu_of hr) (se_var (i := 0) rfl (.inl rfl) rfl rfl) se_str (se_op ops_add (se_var (i := 3) rfl (.inl rfl) rfl rfl) se_int) rfl)
      (sss_cons (ss_set (i := 4) (se_if (st_cmp (ops_ne hr.units) (se_dget (hu_of hr) (se_var (i := 0) rfl (.inl rfl) rfl rfl) se_str (fun _ _ => rfl)) (se_lst sa_nil) rfl) (se_ix ixs (se_dget (hu_of hr) (se_var (i := 0) rfl (.inl rfl) rfl rfl) se_str (fun _ _ => rfl)) (se_op ops_mod (se_callTy cs_int rfl B.n_int (by decide +kernel) (sa_cons (se_var (i := 3) rfl (.inl rfl) rfl rfl) sa_nil rfl) (by decide) rfl rfl rfl) (se_callB cs_len rfl B.n_len (by decide +kernel) (sa_cons (se_dget (hu_of hr) (se_var (i := 0) rfl (.inl rfl) rfl rfl) se_str (fun _ _ => rfl)) sa_nil rfl) (by decide) rfl rfl rfl)) (fun _ _ => rfl)) se_int) sc.nd rfl (.inl rfl) rfl (.inr rfl))
      (sss_cons (ss_if (st_w (sw_and (st_cmp (ops_ge hr.units) (se_var (i := 4) rfl (.inl rfl) rfl rfl) (se_op ops_pow se_int se_int) rfl) (sw_and1 (st_cmp (ops_lt hr.units) (se_var (i := 3) rfl (.inl rfl) rfl rfl) (se_callB cs_len rfl B.n_len (by decide +kernel) (sa_cons (se_dget (hu_of hr) (se_var (i := 0) rfl (.inl rfl) rfl rfl) se_str (fun _ _ => rfl)) sa_nil rfl) (by decide) rfl rfl rfl) rfl)))) (sss_cons (ss_dput (hu_of hr) (se_var (i := 0) rfl (.inl rfl) rfl rfl) se_str (se_op ops_div (se_var (i := 4) rfl (.inl rfl) rfl rfl) (se_var (i := 1) rfl (.inl rfl) rfl rfl)) rfl)
      (sss_one (ss_ret (se_op ops_mod (se_callTy cs_int rfl B.n_int (by decide +kernel) (sa_cons (se_var (i := 4) rfl (.inl rfl) rfl rfl) sa_nil rfl) (by decide) rfl rfl rfl) (se_var (i := 1) rfl (.inl rfl) rfl rfl))))) sss_nil)
      (sss_cons (ss_set (i := 5) (se_op ops_mod (se_callTy cs_int rfl B.n_int (by decide +kernel) (sa_cons (se_op ops_add (se_op ops_add (se_op ops_mod (se_callTy cs_int rfl B.n_int (by decide +kernel) (sa_cons (se_var (i := 4) rfl (.inl rfl) rfl rfl) sa_nil rfl) (by decide) rfl rfl rfl) se_int) (se_op ops_mul se_int (se_dget (hu_of hr) (se_var (i := 0) rfl (.inl rfl) rfl rfl) se_str (fun _ _ => rfl)))) se_int) sa_nil rfl) (by decide) rfl rfl rfl) se_int) sc.nd rfl (.inl rfl) rfl (.inr rfl))
      (sss_cons (ss_set (i := 5) (se_op ops_mod (se_callTy cs_int rfl B.n_int (by decide +kernel) (sa_cons (se_op ops_add (se_op ops_add (se_op ops_mul (se_var (i := 5) rfl (.inl rfl) rfl rfl) (se_var (i := 5) rfl (.inl rfl) rfl rfl)) (se_op ops_mul se_int (se_dget (hu_of hr) (se_var (i := 0) rfl (.inl rfl) rfl rfl) se_str (fun _ _ => rfl)))) se_int) sa_nil rfl) (by decide) rfl rfl rfl) se_int) sc.nd rfl (.inl rfl) rfl (.inr rfl))
      (sss_one (ss_ret (se_op ops_mod (se_callTy cs_int rfl B.n_int (by decide +kernel) (sa_cons (se_op ops_div (se_op ops_mod (se_callTy cs_int rfl B.n_int (by decide +kernel) (sa_cons (se_op ops_add (se_op ops_mul (se_var (i := 5) rfl (.inl rfl) rfl rfl) (se_var (i := 5) rfl (.inl rfl) rfl rfl)) (se_op ops_mul se_int (se_var (i := 5) rfl (.inl rfl) rfl rfl))) sa_nil rfl) (by decide) rfl rfl rfl) se_int) se_int) sa_nil rfl) (by decide) rfl rfl rfl) (se_var (i := 1) rfl (.inl rfl) rfl rfl)))))))))))))
  exact ⟨f, fd, ["_law_feed_here", "_law_many"], G, F.kp, b, hm⟩
theorem sc__law_any : FnScope ["_law_feed_here", "_law_some"] ["_law_feed_here", "_law_some"] (defScope s__law_any) := ⟨rfl, rfl, rfl, by decide +kernel, rfl, by decide +kernel, by decide +kernel⟩
def m__law_any : SM :=
    (retS (bin o_ix (getV 1) (callM (callF f__law_draw) (consA (getV 0) (consA (callM c_len (consA (getV 1) nilA)) nilA)))))
def f__law_any : FM := fnM 2 m__law_any
theorem ok__law_any {f : Addr} {fd : FuncData} (F : Fun K "_law_any" "_law_any" s__law_any f fd) (hm : mg "_law_any" = some (.ref f)) (B : Bt mg) (C : Ct mg) (Z : Xt P w K mg base ct) (d__law_draw : Dfn P w K mg base ct "_law_draw" 1 2 f__law_draw) : Dfn P w K mg base ct "_law_any" 2 2 f__law_any := by
  have b : Binds K fd ["_law_feed_here", "_law_some"] [] := F.binds (ps := ["_law_feed_here", "_law_some"]) (fun _ _ _ _ _ _ us hl => match us, hl with | [_, _], _ => (by kernel_rfl))
  have sc := sc__law_any
  have G : FnOk P w K mg base (L2.CX P w) 2 f fd ["_law_feed_here", "_law_some"] (spF ct K 2 f__law_any) := fn_okL Z.TL (N := ["_law_feed_here", "_law_some"]) F sc__law_any (k := 1) (m := m__law_any) (fun cdv A outer s H E hcd hr => by
    have tk : Takes (cxOf (L2.CX P w) P w K mg base ["_law_feed_here", "_law_some"] "_law_any" (defScope s__law_any) f cdv A outer s H E) (WEx E) := takes_of rfl rfl rfl rfl
    exact (sss_one (ss_ret (se_ix ixs (se_var (i := 1) rfl (.inl rfl) rfl rfl) (se_fn d__law_draw hr (by decide) tk rfl (san_cons (se_var (i := 0) rfl (.inl rfl) rfl rfl) (san_cons (se_callB cs_len rfl B.n_len (by decide +kernel) (sa_cons (se_var (i := 1) rfl (.inl rfl) rfl rfl) sa_nil rfl) (by decide) rfl rfl rfl) san_nil rfl) rfl) rfl rfl rfl) (fun _ _ => rfl)))))
  exact ⟨f, fd, ["_law_feed_here", "_law_some"], G, F.kp, b, hm⟩
theorem sc__law_same : FnScope ["_law_told", "_law_due", "_law_k"] ["_law_told", "_law_due"] (defScope s__law_same) := ⟨rfl, rfl, rfl, by decide +kernel, rfl, by decide +kernel, by decide +kernel⟩
def m__law_same (F__law_same : Nat → FM) (n : Nat) : SM :=
    (seqS (ifS (asB (isiM .tuple (getV 1))) (seqS (ifS (orM (notM (asB (isiM .tuple (getV 0)))) (asB (bin o_ne (callM c_len (consA (getV 0) nilA)) (callM c_len (consA (getV 1) nilA))))) (retS (cst (.bool false))) skipS)
    (retS (bin o_eq (lcM false (rng1 (consA (callM c_len (consA (getV 1) nilA)) nilA)) (tgName 2) (notM (asB (callM (callF (F__law_same n)) (consA (bin o_ix (getV 0) (getV 2)) (consA (bin o_ix (getV 1) (getV 2)) nilA))))) (getV 2) [2]) (lstM nilA)))) skipS)
    (seqS (ifS (orM (asB (isiM .int (getV 1))) (asB (isiM .int (getV 0)))) (retS (andV (isiM .int (getV 0)) (andV (bin o_eq (isiM .bool (getV 0)) (isiM .bool (getV 1))) (bin o_eq (getV 0) (getV 1))))) skipS)
    (retS (bin o_eq (getV 0) (getV 1)))))
def F__law_same : Nat → FM
  | 0 => fun _ _ => .bad
  | n + 1 => fnM 3 (m__law_same (fun _ => F__law_same n) n)
theorem ok__law_same {f : Addr} {fd : FuncData} (F : Fun K "_law_same" "_law_same" s__law_same f fd) (hm : mg "_law_same" = some (.ref f)) (B : Bt mg) (C : Ct mg) (Z : Xt P w K mg base ct)  : ∀ n : Nat, Dfn P w K mg base ct "_law_same" (0 + n) 2 (F__law_same n)
  | 0 => by
    have b : Binds K fd ["_law_told", "_law_due"] [] := F.binds (ps := ["_law_told", "_law_due"]) (fun _ _ _ _ _ _ us hl => match us, hl with | [_, _], _ => (by kernel_rfl))
    have G : FnOk P w K mg base (L2.CX P w) (0 + 0) f fd ["_law_told", "_law_due"] (spF ct K 2 (F__law_same 0)) := ⟨fun vs H Q E h => h.1, fun A outer s H args us vs Q E _ _ _ _ h => (by
      obtain ⟨_, _, _, _, _, _, _, h⟩ := h
      exact h.elim)⟩
    exact ⟨f, fd, ["_law_told", "_law_due"], G, F.kp, b, hm⟩
  | n + 1 => by
    have ih := ok__law_same F hm B C Z  n
    have b : Binds K fd ["_law_told", "_law_due"] [] := F.binds (ps := ["_law_told", "_law_due"]) (fun _ _ _ _ _ _ us hl => match us, hl with | [_, _], _ => (by kernel_rfl))
    have sc := sc__law_same
    have G : FnOk P w K mg base (L2.CX P w) (0 + (n + 1)) f fd ["_law_told", "_law_due"] (spF ct K 2 (F__law_same (n + 1))) := fn_okL Z.TL (N := ["_law_told", "_law_due", "_law_k"]) F sc__law_same (k := 0 + n) (m := (m__law_same (fun _ => F__law_same n) n)) (fun cdv A outer s H E hcd hr => by
      have tk : Takes (cxOf (L2.CX P w) P w K mg base ["_law_told", "_law_due", "_law_k"] "_law_same" (defScope s__law_same) f cdv A outer s H E) (WEx E) := takes_of rfl rfl rfl rfl
      exact (sss_cons (ss_if (st_val (se_isi .tuple rfl B.n_isinstance rfl B.n_tuple (by decide +kernel) (by decide) rfl (se_var (i := 1) rfl (.inr (.inl rfl)) rfl rfl) rfl rfl rfl) (fun _ => rfl)) (sss_cons (ss_if (st_w (sw_or (st_not (st_val (se_isi .tuple rfl B.n_isinstance rfl B.n_tuple (by decide +kernel) (by decide) rfl (se_var (i := 0) rfl (.inr (.inl rfl)) rfl rfl) rfl rfl rfl) (fun _ => rfl))) (sw_or1 (st_cmp (ops_ne hr.units) (se_callB cs_len rfl B.n_len (by decide +kernel) (sa_cons (se_var (i := 0) rfl (.inr (.inl rfl)) rfl rfl) sa_nil rfl) (by decide) rfl rfl rfl) (se_callB cs_len rfl B.n_len (by decide +kernel) (sa_cons (se_var (i := 1) rfl (.inr (.inl rfl)) rfl rfl) sa_nil rfl) (by decide) rfl rfl rfl) rfl)))) (sss_one (ss_ret se_bl)) sss_nil)
      (sss_one (ss_ret (se_cmp (ops_eq hr.units) (se_lc false (ow := [("_law_k", 2)]) rfl sc.nd (si_range1 rfl B.n_range (sa_cons (se_callB cs_len rfl B.n_len (by decide +kernel) (sa_cons (se_var (i := 1) rfl (.inr (.inl rfl)) rfl rfl) sa_nil rfl) (by decide) rfl rfl rfl) sa_nil rfl) rfl) (blkOk_by (by kernel_rfl)) (by decide) (fun _ _ _ _ _ => (sg_name (i := 2) sc.nd rfl (.inl rfl) (.inr rfl))) (fun _ _ _ _ _ => (sts_one (st_not (st_val (se_fn ih hr (Nat.le_refl _) takes0 rfl (san_cons (se_ix ixs (se_var (i := 0) rfl (by first | exact .inr (.inl rfl) | exact .inr (.inr rfl)) rfl rfl) (se_var (i := 2) rfl (.inl rfl) rfl rfl) (fun _ _ => rfl)) (san_cons (se_ix ixs (se_var (i := 1) rfl (by first | exact .inr (.inl rfl) | exact .inr (.inr rfl)) rfl rfl) (se_var (i := 2) rfl (.inl rfl) rfl rfl) (fun _ _ => rfl)) san_nil rfl) rfl) rfl rfl rfl) (fun _ => rfl))))) (fun _ _ _ _ _ => (se_var (i := 2) rfl (.inl rfl) rfl rfl)) (fun _ => rfl)) (se_lst sa_nil) rfl)))) sss_nil)
      (sss_cons (ss_if (st_w (sw_or (st_val (se_isi .int rfl B.n_isinstance rfl B.n_int (by decide +kernel) (by decide) rfl (se_var (i := 1) rfl (.inr (.inl rfl)) rfl rfl) rfl rfl rfl) (fun _ => rfl)) (sw_or1 (st_val (se_isi .int rfl B.n_isinstance rfl B.n_int (by decide +kernel) (by decide) rfl (se_var (i := 0) rfl (.inr (.inl rfl)) rfl rfl) rfl rfl rfl) (fun _ => rfl))))) (sss_one (ss_ret (se_and (se_isi .int rfl B.n_isinstance rfl B.n_int (by decide +kernel) (by decide) rfl (se_var (i := 0) rfl (.inr (.inl rfl)) rfl rfl) rfl rfl rfl) (se_and (se_cmp (ops_eq hr.units) (se_isi .bool rfl B.n_isinstance rfl B.n_bool (by decide +kernel) (by decide) rfl (se_var (i := 0) rfl (.inr (.inl rfl)) rfl rfl) rfl rfl rfl) (se_isi .bool rfl B.n_isinstance rfl B.n_bool (by decide +kernel) (by decide) rfl (se_var (i := 1) rfl (.inr (.inl rfl)) rfl rfl) rfl rfl rfl) rfl) (se_one (se_cmp (ops_eq hr.units) (se_var (i := 0) rfl (.inr (.inl rfl)) rfl rfl) (se_var (i := 1) rfl (.inr (.inl rfl)) rfl rfl) rfl)))))) sss_nil)
      (sss_one (ss_ret (se_cmp (ops_eq hr.units) (se_var (i := 0) rfl (.inr (.inl rfl)) rfl rfl) (se_var (i := 1) rfl (.inr (.inl rfl)) rfl rfl) rfl))))))
    exact ⟨f, fd, ["_law_told", "_law_due"], G, F.kp, b, hm⟩
theorem sc__law_size : FnScope ["_law_feed_here", "_law_kind", "_law_great", "_law_lap"] ["_law_feed_here"] (defScope s__law_size) := ⟨rfl, rfl, rfl, by decide +kernel, rfl, by decide +kernel, by decide +kernel⟩
def m__law_size : SM :=
    (seqS (setS 1 (callM (callF f__law_draw) (consA (getV 0) (consA (cst (.int (5))) nilA))))
    (seqS (ifS (asB (bin o_lt (getV 1) (cst (.int (3))))) (retS (callM (callF f__law_draw) (consA (getV 0) (consA (bin o_ix (lstM (consA (cst (.int (2))) (consA (cst (.int (4))) (consA (cst (.int (30))) nilA)))) (getV 1)) nilA)))) skipS)
    (seqS (setS 2 (cst (.int (0))))
    (seqS (forS (rng1 (consA (ifM (asB (bin o_eq (getV 1) (cst (.int (3))))) (cst (.int (9))) (callM (callF f__law_draw) (consA (getV 0) (consA (cst (.int (10))) nilA)))) nilA)) (tgName 3) (setS 2 (bin o_add (bin o_mul (getV 2) (bin o_pow (cst (.int (10))) (cst (.int (6))))) (callM (callF f__law_draw) (consA (getV 0) (consA (bin o_pow (cst (.int (10))) (cst (.int (6)))) nilA))))))
    (retS (bin o_add (bin o_mul (getV 2) (bin o_pow (cst (.int (10))) (cst (.int (5))))) (callM (callF f__law_draw) (consA (getV 0) (consA (bin o_pow (cst (.int (10))) (cst (.int (5)))) nilA)))))))))
def f__law_size : FM := fnM 4 m__law_size
theorem ok__law_size {f : Addr} {fd : FuncData} (F : Fun K "_law_size" "_law_size" s__law_size f fd) (hm : mg "_law_size" = some (.ref f)) (B : Bt mg) (C : Ct mg) (Z : Xt P w K mg base ct) (d__law_draw : Dfn P w K mg base ct "_law_draw" 1 2 f__law_draw) : Dfn P w K mg base ct "_law_size" 2 1 f__law_size := by
  have b : Binds K fd ["_law_feed_here"] [] := F.binds (ps := ["_law_feed_here"]) (fun _ _ _ _ _ _ us hl => match us, hl with | [_], _ => (by kernel_rfl))
  have sc := sc__law_size
  have G : FnOk P w K mg base (L2.CX P w) 2 f fd ["_law_feed_here"] (spF ct K 1 f__law_size) := fn_okL Z.TL (N := ["_law_feed_here", "_law_kind", "_law_great", "_law_lap"]) F sc__law_size (k := 1) (m := m__law_size) (fun cdv A outer s H E hcd hr => by
    have tk : Takes (cxOf (L2.CX P w) P w K mg base ["_law_feed_here", "_law_kind", "_law_great", "_law_lap"] "_law_size" (defScope s__law_size) f cdv A outer s H E) (WEx E) := takes_of rfl rfl rfl rfl
    exact (sss_cons (ss_set (i := 1) (se_fn d__law_draw hr (by decide) tk rfl (san_cons (se_var (i := 0) rfl (.inl rfl) rfl rfl) (san_cons se_int san_nil rfl) rfl) rfl rfl rfl) sc.nd rfl (.inl rfl) rfl (.inr rfl))
      (sss_cons (ss_if (st_cmp (ops_lt hr.units) (se_var (i := 1) rfl (.inl rfl) rfl rfl) se_int rfl) (sss_one (ss_ret (se_fn d__law_draw hr (by decide) tk rfl (san_cons (se_var (i := 0) rfl (.inl rfl) rfl rfl) (san_cons (se_ix ixs (se_lst (sa_cons se_int (sa_cons se_int (sa_cons se_int sa_nil rfl) rfl) rfl)) (se_var (i := 1) rfl (.inl rfl) rfl rfl) (fun _ _ => rfl)) san_nil rfl) rfl) rfl rfl rfl))) sss_nil)
      (sss_cons (ss_set (i := 2) se_int sc.nd rfl (.inl rfl) rfl (.inr rfl))
      (sss_cons (ss_for (passes_of rfl) rfl (si_range1 rfl B.n_range (sa_cons (se_if (st_cmp (ops_eq hr.units) (se_var (i := 1) rfl (.inl rfl) rfl rfl) se_int rfl) se_int (se_fn d__law_draw hr (by decide) tk rfl (san_cons (se_var (i := 0) rfl (.inl rfl) rfl rfl) (san_cons se_int san_nil rfl) rfl) rfl rfl rfl)) sa_nil rfl) rfl) (sg_name (i := 3) sc.nd rfl (.inl rfl) (.inr rfl)) (sss_one (ss_set (i := 2) (se_op ops_add (se_op ops_mul (se_var (i := 2) rfl (.inl rfl) rfl rfl) (se_op ops_pow se_int se_int)) (se_fn d__law_draw hr (by decide) tk rfl (san_cons (se_var (i := 0) rfl (.inl rfl) rfl rfl) (san_cons (se_op ops_pow se_int se_int) san_nil rfl) rfl) rfl rfl rfl)) sc.nd rfl (.inl rfl) rfl (.inr rfl))) (fun _ => rfl))
      (sss_one (ss_ret (se_op ops_add (se_op ops_mul (se_var (i := 2) rfl (.inl rfl) rfl rfl) (se_op ops_pow se_int se_int)) (se_fn d__law_draw hr (by decide) tk rfl (san_cons (se_var (i := 0) rfl (.inl rfl) rfl rfl) (san_cons (se_op ops_pow se_int se_int) san_nil rfl) rfl) rfl rfl rfl)))))))))
  exact ⟨f, fd, ["_law_feed_here"], G, F.kp, b, hm⟩
theorem sc__law_odd : FnScope ["_law_feed_here", "_law_odd_here"] ["_law_feed_here"] (defScope s__law_odd) := ⟨rfl, rfl, rfl, by decide +kernel, rfl, by decide +kernel, by decide +kernel⟩
def m__law_odd : SM :=
    (seqS (setS 1 (lstM (consA (cst (.bool true)) (consA (cst (.bool false)) (consA (cst .none) (consA (negM (cst (.int (1)))) (consA (negM (cst (.int (7)))) (consA (cst (.str (Str.ofString "1"))) (consA (cst (.str (Str.ofString ""))) (consA (tupM nilA) (consA (tupM (consA (cst (.int (1))) nilA)) (consA (lstM (consA (cst (.int (1))) nilA)) (consA (lstM nilA) (consA (cst (.str (Str.ofString "a"))) nilA))))))))))))))
    (retS (callM (callF f__law_any) (consA (getV 0) (consA (getV 1) nilA)))))
def f__law_odd : FM := fnM 2 m__law_odd
theorem ok__law_odd {f : Addr} {fd : FuncData} (F : Fun K "_law_odd" "_law_odd" s__law_odd f fd) (hm : mg "_law_odd" = some (.ref f)) (B : Bt mg) (C : Ct mg) (Z : Xt P w K mg base ct) (d__law_any : Dfn P w K mg base ct "_law_any" 2 2 f__law_any) : Dfn P w K mg base ct "_law_odd" 3 1 f__law_odd := by
  have b : Binds K fd ["_law_feed_here"] [] := F.binds (ps := ["_law_feed_here"]) (fun _ _ _ _ _ _ us hl => match us, hl with | [_], _ => (by kernel_rfl))
  have sc := sc__law_odd
  have G : FnOk P w K mg base (L2.CX P w) 3 f fd ["_law_feed_here"] (spF ct K 1 f__law_odd) := fn_okL Z.TL (N := ["_law_feed_here", "_law_odd_here"]) F sc__law_odd (k := 2) (m := m__law_odd) (fun cdv A outer s H E hcd hr => by
    have tk : Takes (cxOf (L2.CX P w) P w K mg base ["_law_feed_here", "_law_odd_here"] "_law_odd" (defScope s__law_odd) f cdv A outer s H E) (WEx E) := takes_of rfl rfl rfl rfl
    exact (sss_cons (ss_set (i := 1) (se_lst (sa_cons se_bl (sa_cons se_bl (sa_cons se_non (sa_cons (se_neg se_int) (sa_cons (se_neg se_int) (sa_cons se_str (sa_cons se_str (sa_cons (se_tup sa_nil) (sa_cons (se_tup (sa_cons se_int sa_nil rfl)) (sa_cons (se_lst (sa_cons se_int sa_nil rfl)) (sa_cons (se_lst sa_nil) (sa_cons se_str sa_nil rfl) rfl) rfl) rfl) rfl) rfl) rfl) rfl) rfl) rfl) rfl) rfl)) sc.nd rfl (.inl rfl) rfl (.inr rfl))
      (sss_one (ss_ret (se_fn d__law_any hr (by decide) tk rfl (san_cons (se_var (i := 0) rfl (.inl rfl) rfl rfl) (san_cons (se_var (i := 1) rfl (.inl rfl) rfl rfl) san_nil rfl) rfl) rfl rfl rfl)))))
  exact ⟨f, fd, ["_law_feed_here"], G, F.kp, b, hm⟩
theorem sc__law_word : FnScope ["_law_sure", "_law_off", "_law_budget"] ["_law_sure", "_law_off", "_law_budget"] (defScope s__law_word) := ⟨rfl, rfl, rfl, by decide +kernel, rfl, by decide +kernel, by decide +kernel⟩
def m__law_word : SM :=
    (seqS (ifS (andM (asB (bin o_gt (getV 0) (getV 2))) (asB (bin o_gt (getV 1) (getV 2)))) (retS (cst (.str (Str.ofString "none")))) skipS)
    (seqS (ifS (asB (bin o_gt (getV 1) (getV 2))) (retS (cst (.str (Str.ofString "right")))) skipS)
    (retS (ifM (asB (bin o_gt (getV 0) (getV 2))) (cst (.str (Str.ofString "wrong"))) (cst (.str (Str.ofString "open")))))))
def f__law_word : FM := fnM 3 m__law_word
theorem ok__law_word {f : Addr} {fd : FuncData} (F : Fun K "_law_word" "_law_word" s__law_word f fd) (hm : mg "_law_word" = some (.ref f)) (B : Bt mg) (C : Ct mg) (Z : Xt P w K mg base ct)  : Dfn P w K mg base ct "_law_word" 1 3 f__law_word := by
  have b : Binds K fd ["_law_sure", "_law_off", "_law_budget"] [] := F.binds (ps := ["_law_sure", "_law_off", "_law_budget"]) (fun _ _ _ _ _ _ us hl => match us, hl with | [_, _, _], _ => (by kernel_rfl))
  have sc := sc__law_word
  have G : FnOk P w K mg base (L2.CX P w) 1 f fd ["_law_sure", "_law_off", "_law_budget"] (spF ct K 3 f__law_word) := fn_okL Z.TL (N := ["_law_sure", "_law_off", "_law_budget"]) F sc__law_word (k := 0) (m := m__law_word) (fun cdv A outer s H E hcd hr => by
    have tk : Takes (cxOf (L2.CX P w) P w K mg base ["_law_sure", "_law_off", "_law_budget"] "_law_word" (defScope s__law_word) f cdv A outer s H E) (WEx E) := takes_of rfl rfl rfl rfl
    exact (sss_cons (ss_if (st_w (sw_and (st_cmp (ops_gt hr.units) (se_var (i := 0) rfl (.inl rfl) rfl rfl) (se_var (i := 2) rfl (.inl rfl) rfl rfl) rfl) (sw_and1 (st_cmp (ops_gt hr.units) (se_var (i := 1) rfl (.inl rfl) rfl rfl) (se_var (i := 2) rfl (.inl rfl) rfl rfl) rfl)))) (sss_one (ss_ret se_str)) sss_nil)
      (sss_cons (ss_if (st_cmp (ops_gt hr.units) (se_var (i := 1) rfl (.inl rfl) rfl rfl) (se_var (i := 2) rfl (.inl rfl) rfl rfl) rfl) (sss_one (ss_ret se_str)) sss_nil)
      (sss_one (ss_ret (se_if (st_cmp (ops_gt hr.units) (se_var (i := 0) rfl (.inl rfl) rfl rfl) (se_var (i := 2) rfl (.inl rfl) rfl rfl) rfl) se_str se_str))))))
  exact ⟨f, fd, ["_law_sure", "_law_off", "_law_budget"], G, F.kp, b, hm⟩
theorem sc__law_lesser : FnScope ["_law_sure", "_law_off"] ["_law_sure", "_law_off"] (defScope s__law_lesser) := ⟨rfl, rfl, rfl, by decide +kernel, rfl, by decide +kernel, by decide +kernel⟩
def m__law_lesser : SM :=
    (retS (ifM (asB (bin o_lt (getV 0) (getV 1))) (getV 0) (getV 1)))
def f__law_lesser : FM := fnM 2 m__law_lesser
theorem ok__law_lesser {f : Addr} {fd : FuncData} (F : Fun K "_law_lesser" "_law_lesser" s__law_lesser f fd) (hm : mg "_law_lesser" = some (.ref f)) (B : Bt mg) (C : Ct mg) (Z : Xt P w K mg base ct)  : Dfn P w K mg base ct "_law_lesser" 1 2 f__law_lesser := by
  have b : Binds K fd ["_law_sure", "_law_off"] [] := F.binds (ps := ["_law_sure", "_law_off"]) (fun _ _ _ _ _ _ us hl => match us, hl with | [_, _], _ => (by kernel_rfl))
  have sc := sc__law_lesser
  have G : FnOk P w K mg base (L2.CX P w) 1 f fd ["_law_sure", "_law_off"] (spF ct K 2 f__law_lesser) := fn_okL Z.TL (N := ["_law_sure", "_law_off"]) F sc__law_lesser (k := 0) (m := m__law_lesser) (fun cdv A outer s H E hcd hr => by
    have tk : Takes (cxOf (L2.CX P w) P w K mg base ["_law_sure", "_law_off"] "_law_lesser" (defScope s__law_lesser) f cdv A outer s H E) (WEx E) := takes_of rfl rfl rfl rfl
    exact (sss_one (ss_ret (se_if (st_cmp (ops_lt hr.units) (se_var (i := 0) rfl (.inl rfl) rfl rfl) (se_var (i := 1) rfl (.inl rfl) rfl rfl) rfl) (se_var (i := 0) rfl (.inl rfl) rfl rfl) (se_var (i := 1) rfl (.inl rfl) rfl rfl)))))
  exact ⟨f, fd, ["_law_sure", "_law_off"], G, F.kp, b, hm⟩
theorem sc_Standing___str__ : FnScope ["self"] ["self"] (defScope s_Standing___str__) := ⟨rfl, rfl, rfl, by decide +kernel, rfl, by decide +kernel, by decide +kernel⟩
def m_Standing___str__ : SM :=
    (retS (fsM [(cst (.str (Str.ofString "right "))), (fmtM (fldM (Str.ofString "Standing") (Str.ofString "right") (getV 0))), (cst (.str (Str.ofString ", wrong "))), (fmtM (fldM (Str.ofString "Standing") (Str.ofString "wrong") (getV 0)))]))
def f_Standing___str__ : FM := fnM 1 m_Standing___str__
theorem ok_Standing___str__ {f : Addr} {fd : FuncData} (F : Fun K "__str__" "Standing.__str__" s_Standing___str__ f fd) (B : Bt mg) (C : Ct mg) (Z : Xt P w K mg base ct)  : Dfi P w K mg base ct f 1 1 f_Standing___str__ := by
  have b : Binds K fd ["self"] [] := F.binds (ps := ["self"]) (fun _ _ _ _ _ _ us hl => match us, hl with | [_], _ => (by kernel_rfl))
  have sc := sc_Standing___str__
  have G : FnOk P w K mg base (L2.CX P w) 1 f fd ["self"] (spF ct K 1 f_Standing___str__) := fn_okL Z.TL (N := ["self"]) F sc_Standing___str__ (k := 0) (m := m_Standing___str__) (fun cdv A outer s H E hcd hr => by
    have tk : Takes (cxOf (L2.CX P w) P w K mg base ["self"] "Standing.__str__" (defScope s_Standing___str__) f cdv A outer s H E) (WEx E) := takes_of rfl rfl rfl rfl
    exact (sss_one (ss_ret (se_fs (sj_cons se_str (sj_cons (se_fmt (se_fld Z.i_Standing.1 Z.n_Standing_right (se_var (i := 0) rfl (.inl rfl) rfl rfl) rfl)) (sj_cons se_str (sj_cons (se_fmt (se_fld Z.i_Standing.1 Z.n_Standing_wrong (se_var (i := 0) rfl (.inl rfl) rfl rfl) rfl)) sj_nil))))))))
  exact ⟨fd, ["self"], G, b⟩
theorem sc_Standing_base : FnScope ["self"] ["self"] (defScope s_Standing_base) := ⟨rfl, rfl, rfl, by decide +kernel, rfl, by decide +kernel, by decide +kernel⟩
def m_Standing_base : SM :=
    (retS (ifM (asB (bin o_lt (fldM (Str.ofString "Standing") (Str.ofString "right") (getV 0)) (fldM (Str.ofString "Standing") (Str.ofString "wrong") (getV 0)))) (fldM (Str.ofString "Standing") (Str.ofString "right") (getV 0)) (fldM (Str.ofString "Standing") (Str.ofString "wrong") (getV 0))))
def f_Standing_base : FM := fnM 1 m_Standing_base
theorem ok_Standing_base {f : Addr} {fd : FuncData} (F : Fun K "base" "Standing.base" s_Standing_base f fd) (B : Bt mg) (C : Ct mg) (Z : Xt P w K mg base ct)  : Dfi P w K mg base ct f 1 1 f_Standing_base := by
  have b : Binds K fd ["self"] [] := F.binds (ps := ["self"]) (fun _ _ _ _ _ _ us hl => match us, hl with | [_], _ => (by kernel_rfl))
  have sc := sc_Standing_base
  have G : FnOk P w K mg base (L2.CX P w) 1 f fd ["self"] (spF ct K 1 f_Standing_base) := fn_okL Z.TL (N := ["self"]) F sc_Standing_base (k := 0) (m := m_Standing_base) (fun cdv A outer s H E hcd hr => by
    have tk : Takes (cxOf (L2.CX P w) P w K mg base ["self"] "Standing.base" (defScope s_Standing_base) f cdv A outer s H E) (WEx E) := takes_of rfl rfl rfl rfl
    exact (sss_one (ss_ret (se_if (st_cmp (ops_lt hr.units) (se_fld Z.i_Standing.1 Z.n_Standing_right (se_var (i := 0) rfl (.inl rfl) rfl rfl) rfl) (se_fld Z.i_Standing.1 Z.n_Standing_wrong (se_var (i := 0) rfl (.inl rfl) rfl rfl) rfl) rfl) (se_fld Z.i_Standing.1 Z.n_Standing_right (se_var (i := 0) rfl (.inl rfl) rfl rfl) rfl) (se_fld Z.i_Standing.1 Z.n_Standing_wrong (se_var (i := 0) rfl (.inl rfl) rfl rfl) rfl)))))
  exact ⟨fd, ["self"], G, b⟩
theorem sc__law_is : FnScope ["_law_some", "_law_sure", "_law_off"] ["_law_some", "_law_sure", "_law_off"] (defScope s__law_is) := ⟨rfl, rfl, rfl, by decide +kernel, rfl, by decide +kernel, by decide +kernel⟩
def m__law_is : SM :=
    (seqS (ifS (orM (notM (asB (isiC (Str.ofString "Standing") (getV 0)))) (orM (notM (asB (callM (callF (F__law_same 25)) (consA (fldM (Str.ofString "Standing") (Str.ofString "right") (getV 0)) (consA (getV 1) nilA))))) (notM (asB (callM (callF (F__law_same 25)) (consA (fldM (Str.ofString "Standing") (Str.ofString "wrong") (getV 0)) (consA (getV 2) nilA))))))) (retS (cst (.bool false))) skipS)
    (seqS (ifS (notM (asB (callM (callF (F__law_same 25)) (consA (propM (Str.ofString "Standing") f_Standing_base (getV 0)) (consA (callM (callF f__law_lesser) (consA (getV 1) (consA (getV 2) nilA))) nilA))))) (retS (cst (.bool false))) skipS)
    (retS (bin o_eq (callM (strI (Str.ofString "Standing") f_Standing___str__) (consA (getV 0) nilA)) (bin o_add (bin o_add (bin o_add (cst (.str (Str.ofString "right "))) (callM c_str (consA (getV 1) nilA))) (cst (.str (Str.ofString ", wrong ")))) (callM c_str (consA (getV 2) nilA)))))))
def f__law_is : FM := fnM 3 m__law_is
theorem ok__law_is {f : Addr} {fd : FuncData} (F : Fun K "_law_is" "_law_is" s__law_is f fd) (hm : mg "_law_is" = some (.ref f)) (B : Bt mg) (C : Ct mg) (Z : Xt P w K mg base ct) (d_Standing___str__ : Dfi P w K mg base ct (He.ma K (He.ga K "Standing") "__str__") 1 1 f_Standing___str__) (d_Standing_base : Dfi P w K mg base ct (prA K "Standing" "base") 1 1 f_Standing_base) (d__law_lesser : Dfn P w K mg base ct "_law_lesser" 1 2 f__law_lesser) (d__law_same : Dfn P w K mg base ct "_law_same" 25 2 (F__law_same 25)) : Dfn P w K mg base ct "_law_is" 26 3 f__law_is := by
  have b : Binds K fd ["_law_some", "_law_sure", "_law_off"] [] := F.binds (ps := ["_law_some", "_law_sure", "_law_off"]) (fun _ _ _ _ _ _ us hl => match us, hl with | [_, _, _], _ => (by kernel_rfl))
  have sc := sc__law_is
  have G : FnOk P w K mg base (L2.CX P w) 26 f fd ["_law_some", "_law_sure", "_law_off"] (spF ct K 3 f__law_is) := fn_okL Z.TL (N := ["_law_some", "_law_sure", "_law_off"]) F sc__law_is (k := 25) (m := m__law_is) (fun cdv A outer s H E hcd hr => by
    have tk : Takes (cxOf (L2.CX P w) P w K mg base ["_law_some", "_law_sure", "_law_off"] "_law_is" (defScope s__law_is) f cdv A outer s H E) (WEx E) := takes_of rfl rfl rfl rfl
    exact (sss_cons (ss_if (st_w (sw_or (st_not (st_val (se_isiC Z.s_Standing Z.i_Standing.1 rfl B.n_isinstance rfl Z.i_Standing.2 rfl (se_var (i := 0) rfl (.inl rfl) rfl rfl) rfl rfl rfl) (fun _ => rfl))) (sw_or (st_not (st_val (se_fn d__law_same hr (by decide) tk rfl (san_cons (se_fld Z.i_Standing.1 Z.n_Standing_right (se_var (i := 0) rfl (.inl rfl) rfl rfl) rfl) (san_cons (se_var (i := 1) rfl (.inl rfl) rfl rfl) san_nil rfl) rfl) rfl rfl rfl) (fun _ => rfl))) (sw_or1 (st_not (st_val (se_fn d__law_same hr (by decide) tk rfl (san_cons (se_fld Z.i_Standing.1 Z.n_Standing_wrong (se_var (i := 0) rfl (.inl rfl) rfl rfl) rfl) (san_cons (se_var (i := 2) rfl (.inl rfl) rfl rfl) san_nil rfl) rfl) rfl rfl rfl) (fun _ => rfl))))))) (sss_one (ss_ret se_bl)) sss_nil)
      (sss_cons (ss_if (st_not (st_val (se_fn d__law_same hr (by decide) tk rfl (san_cons (se_prop Z.i_Standing.1 Z.p_Standing_base d_Standing_base (hr.mono (by decide)) (se_var (i := 0) rfl (.inl rfl) rfl rfl) rfl) (san_cons (se_fn d__law_lesser hr (by decide) tk rfl (san_cons (se_var (i := 1) rfl (.inl rfl) rfl rfl) (san_cons (se_var (i := 2) rfl (.inl rfl) rfl rfl) san_nil rfl) rfl) rfl rfl rfl) san_nil rfl) rfl) rfl rfl rfl) (fun _ => rfl))) (sss_one (ss_ret se_bl)) sss_nil)
      (sss_one (ss_ret (se_cmp (ops_eq hr.units) (se_callTy (cs_strI Z.m_Standing___str__.at_ Z.m_Standing___str__.fn d_Standing___str__ (hr.mono (by decide))) rfl B.n_str (by decide +kernel) (sa_cons (se_var (i := 0) rfl (.inl rfl) rfl rfl) sa_nil rfl) (by decide) rfl rfl rfl) (se_op ops_add (se_op ops_add (se_op ops_add se_str (se_callTy cs_str rfl B.n_str (by decide +kernel) (sa_cons (se_var (i := 1) rfl (.inl rfl) rfl rfl) sa_nil rfl) (by decide) rfl rfl rfl)) se_str) (se_callTy cs_str rfl B.n_str (by decide +kernel) (sa_cons (se_var (i := 2) rfl (.inl rfl) rfl rfl) sa_nil rfl) (by decide) rfl rfl rfl)) rfl))))))
  exact ⟨f, fd, ["_law_some", "_law_sure", "_law_off"], G, F.kp, b, hm⟩
theorem sc_Standing___call__ : FnScope ["self", "budget"] ["self", "budget"] (defScope s_Standing___call__) := ⟨rfl, rfl, rfl, by decide +kernel, rfl, by decide +kernel, by decide +kernel⟩
def m_Standing___call__ : SM :=
    (seqS (ifS (notM (asB (callM (callF f_is_number) (consA (getV 1) nilA)))) (raiseS (Str.ofString "NotUsable") (Str.ofString "word") (Str.ofString "at") (consA (cst (.str (Str.ofString "budget"))) (consA (negM (cst (.int (1)))) nilA))) skipS)
    (seqS (ifS (asB (bin o_gt (propM (Str.ofString "Standing") f_Standing_base (getV 0)) (getV 1))) (retS (cst (.str (Str.ofString "none")))) skipS)
    (seqS (ifS (asB (bin o_gt (fldM (Str.ofString "Standing") (Str.ofString "wrong") (getV 0)) (getV 1))) (retS (cst (.str (Str.ofString "right")))) skipS)
    (seqS (ifS (asB (bin o_gt (fldM (Str.ofString "Standing") (Str.ofString "right") (getV 0)) (getV 1))) (retS (cst (.str (Str.ofString "wrong")))) skipS)
    (retS (cst (.str (Str.ofString "open"))))))))
def f_Standing___call__ : FM := fnM 2 m_Standing___call__
theorem ok_Standing___call__ {f : Addr} {fd : FuncData} (F : Fun K "__call__" "Standing.__call__" s_Standing___call__ f fd) (B : Bt mg) (C : Ct mg) (Z : Xt P w K mg base ct) (d_Standing_base : Dfi P w K mg base ct (prA K "Standing" "base") 1 1 f_Standing_base) (d_is_number : Dfn P w K mg base ct "is_number" 2 1 f_is_number) : Dfi P w K mg base ct f 3 2 f_Standing___call__ := by
  have b : Binds K fd ["self", "budget"] [] := F.binds (ps := ["self", "budget"]) (fun _ _ _ _ _ _ us hl => match us, hl with | [_, _], _ => (by kernel_rfl))
  have sc := sc_Standing___call__
  have G : FnOk P w K mg base (L2.CX P w) 3 f fd ["self", "budget"] (spF ct K 2 f_Standing___call__) := fn_okL Z.TL (N := ["self", "budget"]) F sc_Standing___call__ (k := 2) (m := m_Standing___call__) (fun cdv A outer s H E hcd hr => by
    have tk : Takes (cxOf (L2.CX P w) P w K mg base ["self", "budget"] "Standing.__call__" (defScope s_Standing___call__) f cdv A outer s H E) (WEx E) := takes_of rfl rfl rfl rfl
    exact (sss_cons (ss_if (st_not (st_val (se_fn d_is_number hr (by decide) tk rfl (san_cons (se_var (i := 1) rfl (.inl rfl) rfl rfl) san_nil rfl) rfl rfl rfl) (fun _ => rfl))) (sss_one (ss_raise (k := 0) Z.x_NotUsable rfl tk (hr.mono (by decide)) rfl (sa_cons se_str (sa_cons (se_neg se_int) sa_nil rfl) rfl) rfl rfl rfl)) sss_nil)
      (sss_cons (ss_if (st_cmp (ops_gt hr.units) (se_prop Z.i_Standing.1 Z.p_Standing_base d_Standing_base (hr.mono (by decide)) (se_var (i := 0) rfl (.inl rfl) rfl rfl) rfl) (se_var (i := 1) rfl (.inl rfl) rfl rfl) rfl) (sss_one (ss_ret se_str)) sss_nil)
      (sss_cons (ss_if (st_cmp (ops_gt hr.units) (se_fld Z.i_Standing.1 Z.n_Standing_wrong (se_var (i := 0) rfl (.inl rfl) rfl rfl) rfl) (se_var (i := 1) rfl (.inl rfl) rfl rfl) rfl) (sss_one (ss_ret se_str)) sss_nil)
      (sss_cons (ss_if (st_cmp (ops_gt hr.units) (se_fld Z.i_Standing.1 Z.n_Standing_right (se_var (i := 0) rfl (.inl rfl) rfl rfl) rfl) (se_var (i := 1) rfl (.inl rfl) rfl rfl) rfl) (sss_one (ss_ret se_str)) sss_nil)
      (sss_one (ss_ret se_str)))))))
  exact ⟨fd, ["self", "budget"], G, b⟩
theorem sc_Standing___init__ : FnScope ["self", "right", "wrong"] ["self", "right", "wrong"] (defScope s_Standing___init__) := ⟨rfl, rfl, rfl, by decide +kernel, rfl, by decide +kernel, by decide +kernel⟩
def m_Standing___init__ : SM :=
    (seqS (ifS (notM (asB (callM (callF f_is_number) (consA (getV 1) nilA)))) (raiseS (Str.ofString "NotUsable") (Str.ofString "word") (Str.ofString "at") (consA (cst (.str (Str.ofString "right"))) (consA (negM (cst (.int (1)))) nilA))) skipS)
    (seqS (ifS (notM (asB (callM (callF f_is_number) (consA (getV 2) nilA)))) (raiseS (Str.ofString "NotUsable") (Str.ofString "word") (Str.ofString "at") (consA (cst (.str (Str.ofString "wrong"))) (consA (negM (cst (.int (1)))) nilA))) skipS)
    (seqS (fldS (Str.ofString "Standing") (Str.ofString "right") (getV 0) (getV 1))
    (fldS (Str.ofString "Standing") (Str.ofString "wrong") (getV 0) (getV 2)))))
def f_Standing___init__ : FM := fnM 3 m_Standing___init__
theorem ok_Standing___init__ {f : Addr} {fd : FuncData} (F : Fun K "__init__" "Standing.__init__" s_Standing___init__ f fd) (B : Bt mg) (C : Ct mg) (Z : Xt P w K mg base ct) (d_is_number : Dfn P w K mg base ct "is_number" 2 1 f_is_number) : Dfi P w K mg base ct f 3 3 f_Standing___init__ ∧ DfiW P w K mg base ct f 3 2 0 ["wrong", "right"] [1, 0] f_Standing___init__ := by
  have b : Binds K fd ["self", "right", "wrong"] [] := F.binds (ps := ["self", "right", "wrong"]) (fun _ _ _ _ _ _ us hl => match us, hl with | [_, _, _], _ => (by kernel_rfl))
  have sc := sc_Standing___init__
  have G : FnOk P w K mg base (L2.CX P w) 3 f fd ["self", "right", "wrong"] (spF ct K 3 f_Standing___init__) := fn_okL Z.TL (N := ["self", "right", "wrong"]) F sc_Standing___init__ (k := 2) (m := m_Standing___init__) (fun cdv A outer s H E hcd hr => by
    have tk : Takes (cxOf (L2.CX P w) P w K mg base ["self", "right", "wrong"] "Standing.__init__" (defScope s_Standing___init__) f cdv A outer s H E) (WEx E) := takes_of rfl rfl rfl rfl
    exact (sss_cons (ss_if (st_not (st_val (se_fn d_is_number hr (by decide) tk rfl (san_cons (se_var (i := 1) rfl (.inl rfl) rfl rfl) san_nil rfl) rfl rfl rfl) (fun _ => rfl))) (sss_one (ss_raise (k := 0) Z.x_NotUsable rfl tk (hr.mono (by decide)) rfl (sa_cons se_str (sa_cons (se_neg se_int) sa_nil rfl) rfl) rfl rfl rfl)) sss_nil)
      (sss_cons (ss_if (st_not (st_val (se_fn d_is_number hr (by decide) tk rfl (san_cons (se_var (i := 2) rfl (.inl rfl) rfl rfl) san_nil rfl) rfl rfl rfl) (fun _ => rfl))) (sss_one (ss_raise (k := 0) Z.x_NotUsable rfl tk (hr.mono (by decide)) rfl (sa_cons se_str (sa_cons (se_neg se_int) sa_nil rfl) rfl) rfl rfl rfl)) sss_nil)
      (sss_cons (ss_fld Z.i_Standing.1 Z.n_Standing_right (se_var (i := 0) rfl (.inl rfl) rfl rfl) (se_var (i := 1) rfl (.inl rfl) rfl rfl) rfl)
      (sss_one (ss_fld Z.i_Standing.1 Z.n_Standing_wrong (se_var (i := 0) rfl (.inl rfl) rfl rfl) (se_var (i := 2) rfl (.inl rfl) rfl rfl) rfl))))))
  exact ⟨⟨fd, ["self", "right", "wrong"], G, b⟩, ⟨fd, ["self", "right", "wrong"], G, fun us ws => pick (0 :: [1, 0].map (· + 1)) (us ++ ws), fun s us ws _ h1 h2 => .of_eq (by
      obtain ⟨oc, od, kV, doc, pm, an, cdv, ctv, osl, rfl, lk, hcd⟩ := F.ex
      match us, ws, h1, h2 with | [_], [_, _], _, _ => first | rfl | kernel_rfl), fun r1 r2 => vals_pick (r1.append r2) _⟩⟩
theorem sc_Standing___neg__ : FnScope ["self"] ["self"] (defScope s_Standing___neg__) := ⟨rfl, rfl, rfl, by decide +kernel, rfl, by decide +kernel, by decide +kernel⟩
def m_Standing___neg__ : SM :=
    (retS (callM (makeR (Str.ofString "Standing") f_Standing___init__) (consA (fldM (Str.ofString "Standing") (Str.ofString "wrong") (getV 0)) (consA (fldM (Str.ofString "Standing") (Str.ofString "right") (getV 0)) nilA))))
def f_Standing___neg__ : FM := fnM 1 m_Standing___neg__
theorem ok_Standing___neg__ {f : Addr} {fd : FuncData} (F : Fun K "__neg__" "Standing.__neg__" s_Standing___neg__ f fd) (B : Bt mg) (C : Ct mg) (Z : Xt P w K mg base ct) (d_Standing___init__ : Dfi P w K mg base ct (He.ma K (He.ga K "Standing") "__init__") 3 3 f_Standing___init__ ∧ DfiW P w K mg base ct (He.ma K (He.ga K "Standing") "__init__") 3 2 0 ["wrong", "right"] [1, 0] f_Standing___init__) : Dfi P w K mg base ct f 5 1 f_Standing___neg__ := by
  have b : Binds K fd ["self"] [] := F.binds (ps := ["self"]) (fun _ _ _ _ _ _ us hl => match us, hl with | [_], _ => (by kernel_rfl))
  have sc := sc_Standing___neg__
  have G : FnOk P w K mg base (L2.CX P w) 5 f fd ["self"] (spF ct K 1 f_Standing___neg__) := fn_okL Z.TL (N := ["self"]) F sc_Standing___neg__ (k := 4) (m := m_Standing___neg__) (fun cdv A outer s H E hcd hr => by
    have tk : Takes (cxOf (L2.CX P w) P w K mg base ["self"] "Standing.__neg__" (defScope s_Standing___neg__) f cdv A outer s H E) (WEx E) := takes_of rfl rfl rfl rfl
    exact (sss_one (ss_ret (se_make Z.k_Standing d_Standing___init__.1 (hr.mono (by decide)) tk rfl Z.i_Standing.2 (san_cons (se_fld Z.i_Standing.1 Z.n_Standing_wrong (se_var (i := 0) rfl (.inl rfl) rfl rfl) rfl) (san_cons (se_fld Z.i_Standing.1 Z.n_Standing_right (se_var (i := 0) rfl (.inl rfl) rfl rfl) rfl) san_nil rfl) rfl) rfl rfl rfl))))
  exact ⟨fd, ["self"], G, b⟩
theorem sc__law_are_answers_right : FnScope ["_law_feed_here", "_law_some", "_law_sure", "_law_off", "_law_budgets", "_law_budget", "_law_size_here"] ["_law_feed_here", "_law_some", "_law_sure", "_law_off"] (defScope s__law_are_answers_right) := ⟨rfl, rfl, rfl, by decide +kernel, rfl, by decide +kernel, by decide +kernel⟩
def m__law_are_answers_right : SM :=
    (seqS (setS 4 (lstM (consA (cst (.int (0))) (consA (getV 2) (consA (getV 3) (consA (bin o_add (getV 2) (cst (.int (1)))) (consA (bin o_add (getV 3) (cst (.int (1)))) (consA (callM (callF f__law_size) (consA (getV 0) nilA)) nilA))))))))
    (seqS (setS 4 (bin o_add (getV 4) (lcM false (seqM (tupM (consA (getV 2) (consA (getV 3) nilA)))) (tgName 6) (asB (bin o_gt (getV 6) (cst (.int (0))))) (bin o_sub (getV 6) (cst (.int (1)))) [6])))
    (seqS (forS (seqM (getV 4)) (tgName 5) (seqS (ifS (asB (bin o_ne (selfM (Str.ofString "Standing") none f_Standing___call__ (getV 1) (consA (getV 5) nilA)) (callM (callF f__law_word) (consA (getV 2) (consA (getV 3) (consA (getV 5) nilA)))))) (retS (cst (.bool false))) skipS)
    (ifS (asB (bin o_ne (selfM (Str.ofString "Standing") none f_Standing___call__ (negIM (Str.ofString "Standing") f_Standing___neg__ (getV 1)) (consA (getV 5) nilA)) (callM (callF f__law_word) (consA (getV 3) (consA (getV 2) (consA (getV 5) nilA)))))) (retS (cst (.bool false))) skipS)))
    (retS (cst (.bool true))))))
def f__law_are_answers_right : FM := fnM 7 m__law_are_answers_right
theorem ok__law_are_answers_right {f : Addr} {fd : FuncData} (F : Fun K "_law_are_answers_right" "_law_are_answers_right" s__law_are_answers_right f fd) (hm : mg "_law_are_answers_right" = some (.ref f)) (B : Bt mg) (C : Ct mg) (Z : Xt P w K mg base ct) (d_Standing___call__ : Dfi P w K mg base ct (He.ma K (He.ga K "Standing") "__call__") 3 2 f_Standing___call__) (d_Standing___neg__ : Dfi P w K mg base ct (He.ma K (He.ga K "Standing") "__neg__") 5 1 f_Standing___neg__) (d__law_size : Dfn P w K mg base ct "_law_size" 2 1 f__law_size) (d__law_word : Dfn P w K mg base ct "_law_word" 1 3 f__law_word) : Dfn P w K mg base ct "_law_are_answers_right" 6 4 f__law_are_answers_right := by
  have b : Binds K fd ["_law_feed_here", "_law_some", "_law_sure", "_law_off"] [] := F.binds (ps := ["_law_feed_here", "_law_some", "_law_sure", "_law_off"]) (fun _ _ _ _ _ _ us hl => match us, hl with | [_, _, _, _], _ => (by kernel_rfl))
  have sc := sc__law_are_answers_right
  have G : FnOk P w K mg base (L2.CX P w) 6 f fd ["_law_feed_here", "_law_some", "_law_sure", "_law_off"] (spF ct K 4 f__law_are_answers_right) := fn_okL Z.TL (N := ["_law_feed_here", "_law_some", "_law_sure", "_law_off", "_law_budgets", "_law_budget", "_law_size_here"]) F sc__law_are_answers_right (k := 5) (m := m__law_are_answers_right) (fun cdv A outer s H E hcd hr => by
    have tk : Takes (cxOf (L2.CX P w) P w K mg base ["_law_feed_here", "_law_some", "_law_sure", "_law_off", "_law_budgets", "_law_budget", "_law_size_here"] "_law_are_answers_right" (defScope s__law_are_answers_right) f cdv A outer s H E) (WEx E) := takes_of rfl rfl rfl rfl
    exact (sss_cons (ss_set (i := 4) (se_lst (sa_cons se_int (sa_cons (se_var (i := 2) rfl (.inl rfl) rfl rfl) (sa_cons (se_var (i := 3) rfl (.inl rfl) rfl rfl) (sa_cons (se_op ops_add (se_var (i := 2) rfl (.inl rfl) rfl rfl) se_int) (sa_cons (se_op ops_add (se_var (i := 3) rfl (.inl rfl) rfl rfl) se_int) (sa_cons (se_fn d__law_size hr (by decide) tk rfl (san_cons (se_var (i := 0) rfl (.inl rfl) rfl rfl) san_nil rfl) rfl rfl rfl) sa_nil rfl) rfl) rfl) rfl) rfl) rfl)) sc.nd rfl (.inl rfl) rfl (.inr rfl))
      (sss_cons (ss_set (i := 4) (se_op ops_add (se_var (i := 4) rfl (.inl rfl) rfl rfl) (se_lc false (ow := [("_law_size_here", 6)]) rfl sc.nd (si_seq (se_tup (sa_cons (se_var (i := 2) rfl (.inl rfl) rfl rfl) (sa_cons (se_var (i := 3) rfl (.inl rfl) rfl rfl) sa_nil rfl) rfl))) (blkOk_by (by kernel_rfl)) (by decide) (fun _ _ _ _ _ => (sg_name (i := 6) sc.nd rfl (.inl rfl) (.inr rfl))) (fun _ _ _ _ _ => (sts_one (st_cmp (ops_gt hr.units) (se_var (i := 6) rfl (.inl rfl) rfl rfl) se_int rfl))) (fun _ _ _ _ _ => (se_op ops_sub (se_var (i := 6) rfl (.inl rfl) rfl rfl) se_int)) (fun _ => rfl))) sc.nd rfl (.inl rfl) rfl (.inr rfl))
      (sss_cons (ss_for (passes_of rfl) rfl (si_seq (se_var (i := 4) rfl (.inl rfl) rfl rfl)) (sg_name (i := 5) sc.nd rfl (.inl rfl) (.inr rfl)) (sss_cons (ss_if (st_cmp (ops_ne hr.units) (se_callI Z.o_Standing d_Standing___call__ (hr.mono (by decide)) tk (se_var (i := 1) rfl (.inl rfl) rfl rfl) (san_cons (se_var (i := 5) rfl (.inl rfl) rfl rfl) san_nil rfl) rfl rfl rfl) (se_fn d__law_word hr (by decide) tk rfl (san_cons (se_var (i := 2) rfl (.inl rfl) rfl rfl) (san_cons (se_var (i := 3) rfl (.inl rfl) rfl rfl) (san_cons (se_var (i := 5) rfl (.inl rfl) rfl rfl) san_nil rfl) rfl) rfl) rfl rfl rfl) rfl) (sss_one (ss_ret se_bl)) sss_nil)
      (sss_one (ss_if (st_cmp (ops_ne hr.units) (se_callI Z.o_Standing d_Standing___call__ (hr.mono (by decide)) tk (se_negI Z.q_Standing___neg__ d_Standing___neg__ (hr.mono (by decide)) tk (se_var (i := 1) rfl (.inl rfl) rfl rfl)) (san_cons (se_var (i := 5) rfl (.inl rfl) rfl rfl) san_nil rfl) rfl rfl rfl) (se_fn d__law_word hr (by decide) tk rfl (san_cons (se_var (i := 3) rfl (.inl rfl) rfl rfl) (san_cons (se_var (i := 2) rfl (.inl rfl) rfl rfl) (san_cons (se_var (i := 5) rfl (.inl rfl) rfl rfl) san_nil rfl) rfl) rfl) rfl rfl rfl) rfl) (sss_one (ss_ret se_bl)) sss_nil))) (fun _ => rfl))
      (sss_one (ss_ret se_bl))))))
  exact ⟨f, fd, ["_law_feed_here", "_law_some", "_law_sure", "_law_off"], G, F.kp, b, hm⟩
theorem sc_Standing___add__ : FnScope ["self", "other"] ["self", "other"] (defScope s_Standing___add__) := ⟨rfl, rfl, rfl, by decide +kernel, rfl, by decide +kernel, by decide +kernel⟩
def m_Standing___add__ : SM :=
    (seqS (ifS (notM (asB (callM (callF f_is_number) (consA (getV 1) nilA)))) (raiseS (Str.ofString "NotUsable") (Str.ofString "word") (Str.ofString "at") (consA (cst (.str (Str.ofString "other"))) (consA (negM (cst (.int (1)))) nilA))) skipS)
    (retS (callM (makeR (Str.ofString "Standing") f_Standing___init__) (consA (bin o_add (fldM (Str.ofString "Standing") (Str.ofString "right") (getV 0)) (getV 1)) (consA (bin o_add (fldM (Str.ofString "Standing") (Str.ofString "wrong") (getV 0)) (getV 1)) nilA)))))
def f_Standing___add__ : FM := fnM 2 m_Standing___add__
theorem ok_Standing___add__ {f : Addr} {fd : FuncData} (F : Fun K "__add__" "Standing.__add__" s_Standing___add__ f fd) (B : Bt mg) (C : Ct mg) (Z : Xt P w K mg base ct) (d_Standing___init__ : Dfi P w K mg base ct (He.ma K (He.ga K "Standing") "__init__") 3 3 f_Standing___init__ ∧ DfiW P w K mg base ct (He.ma K (He.ga K "Standing") "__init__") 3 2 0 ["wrong", "right"] [1, 0] f_Standing___init__) (d_is_number : Dfn P w K mg base ct "is_number" 2 1 f_is_number) : Dfi P w K mg base ct f 5 2 f_Standing___add__ := by
  have b : Binds K fd ["self", "other"] [] := F.binds (ps := ["self", "other"]) (fun _ _ _ _ _ _ us hl => match us, hl with | [_, _], _ => (by kernel_rfl))
  have sc := sc_Standing___add__
  have G : FnOk P w K mg base (L2.CX P w) 5 f fd ["self", "other"] (spF ct K 2 f_Standing___add__) := fn_okL Z.TL (N := ["self", "other"]) F sc_Standing___add__ (k := 4) (m := m_Standing___add__) (fun cdv A outer s H E hcd hr => by
    have tk : Takes (cxOf (L2.CX P w) P w K mg base ["self", "other"] "Standing.__add__" (defScope s_Standing___add__) f cdv A outer s H E) (WEx E) := takes_of rfl rfl rfl rfl
    exact (sss_cons (ss_if (st_not (st_val (se_fn d_is_number hr (by decide) tk rfl (san_cons (se_var (i := 1) rfl (.inl rfl) rfl rfl) san_nil rfl) rfl rfl rfl) (fun _ => rfl))) (sss_one (ss_raise (k := 0) Z.x_NotUsable rfl tk (hr.mono (by decide)) rfl (sa_cons se_str (sa_cons (se_neg se_int) sa_nil rfl) rfl) rfl rfl rfl)) sss_nil)
      (sss_one (ss_ret (se_make Z.k_Standing d_Standing___init__.1 (hr.mono (by decide)) tk rfl Z.i_Standing.2 (san_cons (se_op ops_add (se_fld Z.i_Standing.1 Z.n_Standing_right (se_var (i := 0) rfl (.inl rfl) rfl rfl) rfl) (se_var (i := 1) rfl (.inl rfl) rfl rfl)) (san_cons (se_op ops_add (se_fld Z.i_Standing.1 Z.n_Standing_wrong (se_var (i := 0) rfl (.inl rfl) rfl rfl) rfl) (se_var (i := 1) rfl (.inl rfl) rfl rfl)) san_nil rfl) rfl) rfl rfl rfl)))))
  exact ⟨fd, ["self", "other"], G, b⟩
theorem sc_Standing___radd__ : FnScope ["self", "other"] ["self", "other"] (defScope s_Standing___radd__) := ⟨rfl, rfl, rfl, by decide +kernel, rfl, by decide +kernel, by decide +kernel⟩
def m_Standing___radd__ : SM :=
    (seqS (ifS (notM (asB (callM (callF f_is_number) (consA (getV 1) nilA)))) (raiseS (Str.ofString "NotUsable") (Str.ofString "word") (Str.ofString "at") (consA (cst (.str (Str.ofString "other"))) (consA (negM (cst (.int (1)))) nilA))) skipS)
    (retS (callM (makeR (Str.ofString "Standing") f_Standing___init__) (consA (bin o_add (fldM (Str.ofString "Standing") (Str.ofString "right") (getV 0)) (getV 1)) (consA (bin o_add (fldM (Str.ofString "Standing") (Str.ofString "wrong") (getV 0)) (getV 1)) nilA)))))
def f_Standing___radd__ : FM := fnM 2 m_Standing___radd__
theorem ok_Standing___radd__ {f : Addr} {fd : FuncData} (F : Fun K "__radd__" "Standing.__radd__" s_Standing___radd__ f fd) (B : Bt mg) (C : Ct mg) (Z : Xt P w K mg base ct) (d_Standing___init__ : Dfi P w K mg base ct (He.ma K (He.ga K "Standing") "__init__") 3 3 f_Standing___init__ ∧ DfiW P w K mg base ct (He.ma K (He.ga K "Standing") "__init__") 3 2 0 ["wrong", "right"] [1, 0] f_Standing___init__) (d_is_number : Dfn P w K mg base ct "is_number" 2 1 f_is_number) : Dfi P w K mg base ct f 5 2 f_Standing___radd__ := by
  have b : Binds K fd ["self", "other"] [] := F.binds (ps := ["self", "other"]) (fun _ _ _ _ _ _ us hl => match us, hl with | [_, _], _ => (by kernel_rfl))
  have sc := sc_Standing___radd__
  have G : FnOk P w K mg base (L2.CX P w) 5 f fd ["self", "other"] (spF ct K 2 f_Standing___radd__) := fn_okL Z.TL (N := ["self", "other"]) F sc_Standing___radd__ (k := 4) (m := m_Standing___radd__) (fun cdv A outer s H E hcd hr => by
    have tk : Takes (cxOf (L2.CX P w) P w K mg base ["self", "other"] "Standing.__radd__" (defScope s_Standing___radd__) f cdv A outer s H E) (WEx E) := takes_of rfl rfl rfl rfl
    exact (sss_cons (ss_if (st_not (st_val (se_fn d_is_number hr (by decide) tk rfl (san_cons (se_var (i := 1) rfl (.inl rfl) rfl rfl) san_nil rfl) rfl rfl rfl) (fun _ => rfl))) (sss_one (ss_raise (k := 0) Z.x_NotUsable rfl tk (hr.mono (by decide)) rfl (sa_cons se_str (sa_cons (se_neg se_int) sa_nil rfl) rfl) rfl rfl rfl)) sss_nil)
      (sss_one (ss_ret (se_make Z.k_Standing d_Standing___init__.1 (hr.mono (by decide)) tk rfl Z.i_Standing.2 (san_cons (se_op ops_add (se_fld Z.i_Standing.1 Z.n_Standing_right (se_var (i := 0) rfl (.inl rfl) rfl rfl) rfl) (se_var (i := 1) rfl (.inl rfl) rfl rfl)) (san_cons (se_op ops_add (se_fld Z.i_Standing.1 Z.n_Standing_wrong (se_var (i := 0) rfl (.inl rfl) rfl rfl) rfl) (se_var (i := 1) rfl (.inl rfl) rfl rfl)) san_nil rfl) rfl) rfl rfl rfl)))))
  exact ⟨fd, ["self", "other"], G, b⟩
theorem sc_Standing_open_at : FnScope ["n"] ["n"] (defScope s_Standing_open_at) := ⟨rfl, rfl, rfl, by decide +kernel, rfl, by decide +kernel, by decide +kernel⟩
def m_Standing_open_at : SM :=
    (seqS (ifS (notM (asB (callM (callF f_is_number) (consA (getV 0) nilA)))) (raiseS (Str.ofString "NotUsable") (Str.ofString "word") (Str.ofString "at") (consA (cst (.str (Str.ofString "n"))) (consA (negM (cst (.int (1)))) nilA))) skipS)
    (retS (callM (makeR (Str.ofString "Standing") f_Standing___init__) (consA (getV 0) (consA (getV 0) nilA)))))
def f_Standing_open_at : FM := fnM 1 m_Standing_open_at
theorem ok_Standing_open_at {f : Addr} {fd : FuncData} (F : Fun K "open_at" "Standing.open_at" s_Standing_open_at f fd) (B : Bt mg) (C : Ct mg) (Z : Xt P w K mg base ct) (d_Standing___init__ : Dfi P w K mg base ct (He.ma K (He.ga K "Standing") "__init__") 3 3 f_Standing___init__ ∧ DfiW P w K mg base ct (He.ma K (He.ga K "Standing") "__init__") 3 2 0 ["wrong", "right"] [1, 0] f_Standing___init__) (d_is_number : Dfn P w K mg base ct "is_number" 2 1 f_is_number) : Dfi P w K mg base ct f 5 1 f_Standing_open_at ∧ DfiS P w K mg base ct f 5 1 0 ["n"] [0] f_Standing_open_at := by
  have b : Binds K fd ["n"] [] := F.binds (ps := ["n"]) (fun _ _ _ _ _ _ us hl => match us, hl with | [_], _ => (by kernel_rfl))
  have sc := sc_Standing_open_at
  have G : FnOk P w K mg base (L2.CX P w) 5 f fd ["n"] (spF ct K 1 f_Standing_open_at) := fn_okL Z.TL (N := ["n"]) F sc_Standing_open_at (k := 4) (m := m_Standing_open_at) (fun cdv A outer s H E hcd hr => by
    have tk : Takes (cxOf (L2.CX P w) P w K mg base ["n"] "Standing.open_at" (defScope s_Standing_open_at) f cdv A outer s H E) (WEx E) := takes_of rfl rfl rfl rfl
    exact (sss_cons (ss_if (st_not (st_val (se_fn d_is_number hr (by decide) tk rfl (san_cons (se_var (i := 0) rfl (.inl rfl) rfl rfl) san_nil rfl) rfl rfl rfl) (fun _ => rfl))) (sss_one (ss_raise (k := 0) Z.x_NotUsable rfl tk (hr.mono (by decide)) rfl (sa_cons se_str (sa_cons (se_neg se_int) sa_nil rfl) rfl) rfl rfl rfl)) sss_nil)
      (sss_one (ss_ret (se_make Z.k_Standing d_Standing___init__.1 (hr.mono (by decide)) tk rfl Z.i_Standing.2 (san_cons (se_var (i := 0) rfl (.inl rfl) rfl rfl) (san_cons (se_var (i := 0) rfl (.inl rfl) rfl rfl) san_nil rfl) rfl) rfl rfl rfl)))))
  exact ⟨⟨fd, ["n"], G, b⟩, ⟨fd, ["n"], G, fun us ws => pick [0] (us ++ ws), fun s us ws _ h1 h2 => .of_eq (by
      obtain ⟨oc, od, kV, doc, pm, an, cdv, ctv, osl, rfl, lk, hcd⟩ := F.ex
      match us, ws, h1, h2 with | [], [_], _, _ => first | rfl | kernel_rfl), fun r1 r2 => vals_pick (r1.append r2) _⟩⟩
theorem sc__law_are_sums_right : FnScope ["_law_feed_here", "_law_some", "_law_sure", "_law_off", "_law_more"] ["_law_feed_here", "_law_some", "_law_sure", "_law_off"] (defScope s__law_are_sums_right) := ⟨rfl, rfl, rfl, by decide +kernel, rfl, by decide +kernel, by decide +kernel⟩
def m__law_are_sums_right : SM :=
    (seqS (setS 4 (callM (callF f__law_size) (consA (getV 0) nilA)))
    (seqS (ifS (orM (notM (asB (callM (callF f__law_is) (consA (bin (binI (Str.ofString "Standing") f_Standing___add__) (getV 1) (getV 4)) (consA (bin o_add (getV 2) (getV 4)) (consA (bin o_add (getV 3) (getV 4)) nilA)))))) (notM (asB (callM (callF f__law_is) (consA (bin (binRI (Str.ofString "Standing") f_Standing___radd__) (getV 4) (getV 1)) (consA (bin o_add (getV 2) (getV 4)) (consA (bin o_add (getV 3) (getV 4)) nilA))))))) (retS (cst (.bool false))) skipS)
    (seqS (ifS (orM (notM (asB (callM (callF f__law_is) (consA (negIM (Str.ofString "Standing") f_Standing___neg__ (getV 1)) (consA (getV 3) (consA (getV 2) nilA)))))) (orM (notM (asB (callM (callF f__law_is) (consA (negIM (Str.ofString "Standing") f_Standing___neg__ (negIM (Str.ofString "Standing") f_Standing___neg__ (getV 1))) (consA (getV 2) (consA (getV 3) nilA)))))) (notM (asB (callM (callF f__law_is) (consA (bin (binI (Str.ofString "Standing") f_Standing___add__) (getV 1) (cst (.int (0)))) (consA (getV 2) (consA (getV 3) nilA)))))))) (retS (cst (.bool false))) skipS)
    (retS (andV (callM (callF f__law_is) (consA (callM (callF f_Standing_open_at) (consA (getV 4) nilA)) (consA (getV 4) (consA (getV 4) nilA)))) (callM (callF f__law_is) (consA (callM (callF f_Standing_open_at) (permA [0] (consA (getV 4) nilA))) (consA (getV 4) (consA (getV 4) nilA)))))))))
def f__law_are_sums_right : FM := fnM 5 m__law_are_sums_right
theorem ok__law_are_sums_right {f : Addr} {fd : FuncData} (F : Fun K "_law_are_sums_right" "_law_are_sums_right" s__law_are_sums_right f fd) (hm : mg "_law_are_sums_right" = some (.ref f)) (B : Bt mg) (C : Ct mg) (Z : Xt P w K mg base ct) (d_Standing___add__ : Dfi P w K mg base ct (He.ma K (He.ga K "Standing") "__add__") 5 2 f_Standing___add__) (d_Standing___neg__ : Dfi P w K mg base ct (He.ma K (He.ga K "Standing") "__neg__") 5 1 f_Standing___neg__) (d_Standing___radd__ : Dfi P w K mg base ct (He.ma K (He.ga K "Standing") "__radd__") 5 2 f_Standing___radd__) (d_Standing_open_at : Dfi P w K mg base ct (He5.wf K (He.ga K "Standing") "staticmethod" "open_at") 5 1 f_Standing_open_at ∧ DfiS P w K mg base ct (He5.wf K (He.ga K "Standing") "staticmethod" "open_at") 5 1 0 ["n"] [0] f_Standing_open_at) (d__law_is : Dfn P w K mg base ct "_law_is" 26 3 f__law_is) (d__law_size : Dfn P w K mg base ct "_law_size" 2 1 f__law_size) : Dfn P w K mg base ct "_law_are_sums_right" 27 4 f__law_are_sums_right := by
  have b : Binds K fd ["_law_feed_here", "_law_some", "_law_sure", "_law_off"] [] := F.binds (ps := ["_law_feed_here", "_law_some", "_law_sure", "_law_off"]) (fun _ _ _ _ _ _ us hl => match us, hl with | [_, _, _, _], _ => (by kernel_rfl))
  have sc := sc__law_are_sums_right
  have G : FnOk P w K mg base (L2.CX P w) 27 f fd ["_law_feed_here", "_law_some", "_law_sure", "_law_off"] (spF ct K 4 f__law_are_sums_right) := fn_okL Z.TL (N := ["_law_feed_here", "_law_some", "_law_sure", "_law_off", "_law_more"]) F sc__law_are_sums_right (k := 26) (m := m__law_are_sums_right) (fun cdv A outer s H E hcd hr => by
    have tk : Takes (cxOf (L2.CX P w) P w K mg base ["_law_feed_here", "_law_some", "_law_sure", "_law_off", "_law_more"] "_law_are_sums_right" (defScope s__law_are_sums_right) f cdv A outer s H E) (WEx E) := takes_of rfl rfl rfl rfl
    exact (sss_cons (ss_set (i := 4) (se_fn d__law_size hr (by decide) tk rfl (san_cons (se_var (i := 0) rfl (.inl rfl) rfl rfl) san_nil rfl) rfl rfl rfl) sc.nd rfl (.inl rfl) rfl (.inr rfl))
      (sss_cons (ss_if (st_w (sw_or (st_not (st_val (se_fn d__law_is hr (by decide) tk rfl (san_cons (se_binI (op := .Add) Z.b_Standing_add d_Standing___add__ (hr.mono (by decide)) tk (se_var (i := 1) rfl (.inl rfl) rfl rfl) (se_var (i := 4) rfl (.inl rfl) rfl rfl)) (san_cons (se_op ops_add (se_var (i := 2) rfl (.inl rfl) rfl rfl) (se_var (i := 4) rfl (.inl rfl) rfl rfl)) (san_cons (se_op ops_add (se_var (i := 3) rfl (.inl rfl) rfl rfl) (se_var (i := 4) rfl (.inl rfl) rfl rfl)) san_nil rfl) rfl) rfl) rfl rfl rfl) (fun _ => rfl))) (sw_or1 (st_not (st_val (se_fn d__law_is hr (by decide) tk rfl (san_cons (se_binRI Z.b_Standing_add Z.q_Standing___radd__ Z.e_Standing d_Standing___radd__ (hr.mono (by decide)) tk (se_var (i := 4) rfl (.inl rfl) rfl rfl) (se_var (i := 1) rfl (.inl rfl) rfl rfl)) (san_cons (se_op ops_add (se_var (i := 2) rfl (.inl rfl) rfl rfl) (se_var (i := 4) rfl (.inl rfl) rfl rfl)) (san_cons (se_op ops_add (se_var (i := 3) rfl (.inl rfl) rfl rfl) (se_var (i := 4) rfl (.inl rfl) rfl rfl)) san_nil rfl) rfl) rfl) rfl rfl rfl) (fun _ => rfl)))))) (sss_one (ss_ret se_bl)) sss_nil)
      (sss_cons (ss_if (st_w (sw_or (st_not (st_val (se_fn d__law_is hr (by decide) tk rfl (san_cons (se_negI Z.q_Standing___neg__ d_Standing___neg__ (hr.mono (by decide)) tk (se_var (i := 1) rfl (.inl rfl) rfl rfl)) (san_cons (se_var (i := 3) rfl (.inl rfl) rfl rfl) (san_cons (se_var (i := 2) rfl (.inl rfl) rfl rfl) san_nil rfl) rfl) rfl) rfl rfl rfl) (fun _ => rfl))) (sw_or (st_not (st_val (se_fn d__law_is hr (by decide) tk rfl (san_cons (se_negI Z.q_Standing___neg__ d_Standing___neg__ (hr.mono (by decide)) tk (se_negI Z.q_Standing___neg__ d_Standing___neg__ (hr.mono (by decide)) tk (se_var (i := 1) rfl (.inl rfl) rfl rfl))) (san_cons (se_var (i := 2) rfl (.inl rfl) rfl rfl) (san_cons (se_var (i := 3) rfl (.inl rfl) rfl rfl) san_nil rfl) rfl) rfl) rfl rfl rfl) (fun _ => rfl))) (sw_or1 (st_not (st_val (se_fn d__law_is hr (by decide) tk rfl (san_cons (se_binI (op := .Add) Z.b_Standing_add d_Standing___add__ (hr.mono (by decide)) tk (se_var (i := 1) rfl (.inl rfl) rfl rfl) se_int) (san_cons (se_var (i := 2) rfl (.inl rfl) rfl rfl) (san_cons (se_var (i := 3) rfl (.inl rfl) rfl rfl) san_nil rfl) rfl) rfl) rfl rfl rfl) (fun _ => rfl))))))) (sss_one (ss_ret se_bl)) sss_nil)
      (sss_one (ss_ret (se_and (se_fn d__law_is hr (by decide) tk rfl (san_cons (se_smeth rfl Z.i_Standing.2 rfl Z.r_Standing Z.t_Standing_open_at d_Standing_open_at.1 (hr.mono (by decide)) tk (san_cons (se_var (i := 4) rfl (.inl rfl) rfl rfl) san_nil rfl) rfl rfl rfl) (san_cons (se_var (i := 4) rfl (.inl rfl) rfl rfl) (san_cons (se_var (i := 4) rfl (.inl rfl) rfl rfl) san_nil rfl) rfl) rfl) rfl rfl rfl) (se_one (se_fn d__law_is hr (by decide) tk rfl (san_cons (se_smethW0 ["n"] [0] rfl Z.i_Standing.2 rfl Z.r_Standing Z.t_Standing_open_at d_Standing_open_at.2 rfl rfl (hr.mono (by decide)) tk (sk_cons (se_var (i := 4) rfl (.inl rfl) rfl rfl) sk_nil) rfl rfl rfl rfl) (san_cons (se_var (i := 4) rfl (.inl rfl) rfl rfl) (san_cons (se_var (i := 4) rfl (.inl rfl) rfl rfl) san_nil rfl) rfl) rfl) rfl rfl rfl)))))))))
  exact ⟨f, fd, ["_law_feed_here", "_law_some", "_law_sure", "_law_off"], G, F.kp, b, hm⟩
theorem sc_Standing___eq__ : FnScope ["self", "other"] ["self", "other"] (defScope s_Standing___eq__) := ⟨rfl, rfl, rfl, by decide +kernel, rfl, by decide +kernel, by decide +kernel⟩
def m_Standing___eq__ : SM :=
    (retS (andV (isiC (Str.ofString "Standing") (getV 1)) (andV (bin o_eq (fldM (Str.ofString "Standing") (Str.ofString "right") (getV 0)) (fldM (Str.ofString "Standing") (Str.ofString "right") (getV 1))) (bin o_eq (fldM (Str.ofString "Standing") (Str.ofString "wrong") (getV 0)) (fldM (Str.ofString "Standing") (Str.ofString "wrong") (getV 1))))))
def f_Standing___eq__ : FM := fnM 2 m_Standing___eq__
theorem ok_Standing___eq__ {f : Addr} {fd : FuncData} (F : Fun K "__eq__" "Standing.__eq__" s_Standing___eq__ f fd) (B : Bt mg) (C : Ct mg) (Z : Xt P w K mg base ct)  : Dfi P w K mg base ct f 1 2 f_Standing___eq__ := by
  have b : Binds K fd ["self", "other"] [] := F.binds (ps := ["self", "other"]) (fun _ _ _ _ _ _ us hl => match us, hl with | [_, _], _ => (by kernel_rfl))
  have sc := sc_Standing___eq__
  have G : FnOk P w K mg base (L2.CX P w) 1 f fd ["self", "other"] (spF ct K 2 f_Standing___eq__) := fn_okL Z.TL (N := ["self", "other"]) F sc_Standing___eq__ (k := 0) (m := m_Standing___eq__) (fun cdv A outer s H E hcd hr => by
    have tk : Takes (cxOf (L2.CX P w) P w K mg base ["self", "other"] "Standing.__eq__" (defScope s_Standing___eq__) f cdv A outer s H E) (WEx E) := takes_of rfl rfl rfl rfl
    exact (sss_one (ss_ret (se_and (se_isiC Z.s_Standing Z.i_Standing.1 rfl B.n_isinstance rfl Z.i_Standing.2 rfl (se_var (i := 1) rfl (.inl rfl) rfl rfl) rfl rfl rfl) (se_and (se_cmp (ops_eq hr.units) (se_fld Z.i_Standing.1 Z.n_Standing_right (se_var (i := 0) rfl (.inl rfl) rfl rfl) rfl) (se_fld Z.i_Standing.1 Z.n_Standing_right (se_var (i := 1) rfl (.inl rfl) rfl rfl) rfl) rfl) (se_one (se_cmp (ops_eq hr.units) (se_fld Z.i_Standing.1 Z.n_Standing_wrong (se_var (i := 0) rfl (.inl rfl) rfl rfl) rfl) (se_fld Z.i_Standing.1 Z.n_Standing_wrong (se_var (i := 1) rfl (.inl rfl) rfl rfl) rfl) rfl)))))))
  exact ⟨fd, ["self", "other"], G, b⟩
theorem sc_Standing___le__ : FnScope ["self", "other"] ["self", "other"] (defScope s_Standing___le__) := ⟨rfl, rfl, rfl, by decide +kernel, rfl, by decide +kernel, by decide +kernel⟩
def m_Standing___le__ : SM :=
    (seqS (ifS (notM (asB (isiC (Str.ofString "Standing") (getV 1)))) (retS noM) skipS)
    (retS (andV (bin o_le (fldM (Str.ofString "Standing") (Str.ofString "right") (getV 0)) (fldM (Str.ofString "Standing") (Str.ofString "right") (getV 1))) (bin o_le (fldM (Str.ofString "Standing") (Str.ofString "wrong") (getV 0)) (fldM (Str.ofString "Standing") (Str.ofString "wrong") (getV 1))))))
def f_Standing___le__ : FM := fnM 2 m_Standing___le__
theorem ok_Standing___le__ {f : Addr} {fd : FuncData} (F : Fun K "__le__" "Standing.__le__" s_Standing___le__ f fd) (B : Bt mg) (C : Ct mg) (Z : Xt P w K mg base ct)  : Dfi P w K mg base ct f 1 2 f_Standing___le__ := by
  have b : Binds K fd ["self", "other"] [] := F.binds (ps := ["self", "other"]) (fun _ _ _ _ _ _ us hl => match us, hl with | [_, _], _ => (by kernel_rfl))
  have sc := sc_Standing___le__
  have G : FnOk P w K mg base (L2.CX P w) 1 f fd ["self", "other"] (spF ct K 2 f_Standing___le__) := fn_okL Z.TL (N := ["self", "other"]) F sc_Standing___le__ (k := 0) (m := m_Standing___le__) (fun cdv A outer s H E hcd hr => by
    have tk : Takes (cxOf (L2.CX P w) P w K mg base ["self", "other"] "Standing.__le__" (defScope s_Standing___le__) f cdv A outer s H E) (WEx E) := takes_of rfl rfl rfl rfl
    exact (sss_cons (ss_if (st_not (st_val (se_isiC Z.s_Standing Z.i_Standing.1 rfl B.n_isinstance rfl Z.i_Standing.2 rfl (se_var (i := 1) rfl (.inl rfl) rfl rfl) rfl rfl rfl) (fun _ => rfl))) (sss_one (ss_ret se_noM)) sss_nil)
      (sss_one (ss_ret (se_and (se_cmp (ops_le hr.units) (se_fld Z.i_Standing.1 Z.n_Standing_right (se_var (i := 0) rfl (.inl rfl) rfl rfl) rfl) (se_fld Z.i_Standing.1 Z.n_Standing_right (se_var (i := 1) rfl (.inl rfl) rfl rfl) rfl) rfl) (se_one (se_cmp (ops_le hr.units) (se_fld Z.i_Standing.1 Z.n_Standing_wrong (se_var (i := 0) rfl (.inl rfl) rfl rfl) rfl) (se_fld Z.i_Standing.1 Z.n_Standing_wrong (se_var (i := 1) rfl (.inl rfl) rfl rfl) rfl) rfl)))))))
  exact ⟨fd, ["self", "other"], G, b⟩
theorem sc__law_are_pairs_right : FnScope ["_law_feed_here", "_law_some", "_law_sure", "_law_off", "_law_lap", "_law_one", "_law_two", "_law_other", "_law_alike", "_law_others"] ["_law_feed_here", "_law_some", "_law_sure", "_law_off"] (defScope s__law_are_pairs_right) := ⟨rfl, rfl, rfl, by decide +kernel, rfl, by decide +kernel, by decide +kernel⟩
def m__law_are_pairs_right : SM :=
    (seqS (forS (rng1 (consA (cst (.int (3))) nilA)) (tgName 4) (seqS (parS 5 6 (consA (getV 2) (consA (getV 3) nilA)))
    (seqS (ifS (asB (bin o_eq (getV 4) (cst (.int (1))))) (seqS (setS 5 (bin o_add (getV 2) (callM (callF f__law_draw) (consA (getV 0) (consA (cst (.int (3))) nilA)))))
    (setS 6 (ifM (asB (bin o_gt (getV 3) (cst (.int (0))))) (bin o_sub (getV 3) (callM (callF f__law_draw) (consA (getV 0) (consA (cst (.int (2))) nilA)))) (cst (.int (0)))))) skipS)
    (seqS (ifS (asB (bin o_eq (getV 4) (cst (.int (2))))) (setS 6 (callM (callF f__law_size) (consA (getV 0) nilA))) skipS)
    (seqS (setS 7 (callM (makeR (Str.ofString "Standing") f_Standing___init__) (consA (getV 5) (consA (getV 6) nilA))))
    (seqS (ifS (notM (asB (callM (callF (F__law_same 25)) (consA (bin (cmI (Str.ofString "Standing") f_Standing___le__) (getV 1) (getV 7)) (consA (andV (bin o_le (getV 2) (getV 5)) (bin o_le (getV 3) (getV 6))) nilA))))) (retS (cst (.bool false))) skipS)
    (seqS (ifS (notM (asB (callM (callF (F__law_same 25)) (consA (bin (cmI (Str.ofString "Standing") f_Standing___le__) (getV 7) (getV 1)) (consA (andV (bin o_le (getV 5) (getV 2)) (bin o_le (getV 6) (getV 3))) nilA))))) (retS (cst (.bool false))) skipS)
    (seqS (setS 8 (andV (bin o_eq (getV 2) (getV 5)) (bin o_eq (getV 3) (getV 6))))
    (ifS (orM (notM (asB (callM (callF (F__law_same 25)) (consA (bin (cmI (Str.ofString "Standing") f_Standing___eq__) (getV 1) (getV 7)) (consA (getV 8) nilA))))) (notM (asB (callM (callF (F__law_same 25)) (consA (bin (neJ (Str.ofString "Standing") f_Standing___eq__) (getV 1) (getV 7)) (consA (notV (getV 8)) nilA)))))) (retS (cst (.bool false))) skipS)))))))))
    (seqS (setS 9 (lstM (consA (tupM (consA (getV 2) (consA (getV 3) nilA))) (consA (lstM (consA (getV 2) (consA (getV 3) nilA))) (consA (cst .none) (consA (getV 2) (consA (bin o_add (bin o_add (bin o_add (cst (.str (Str.ofString "right "))) (callM c_str (consA (getV 2) nilA))) (cst (.str (Str.ofString ", wrong ")))) (callM c_str (consA (getV 3) nilA))) (consA (cst (.bool true)) (consA (tupM nilA) nilA)))))))))
    (retS (bin o_eq (lcM false (seqM (getV 9)) (tgName 7) (orM (asB (bin (cmI (Str.ofString "Standing") f_Standing___eq__) (getV 1) (getV 7))) (notM (asB (bin (neJ (Str.ofString "Standing") f_Standing___eq__) (getV 1) (getV 7))))) (getV 7) [7]) (lstM nilA)))))
def f__law_are_pairs_right : FM := fnM 10 m__law_are_pairs_right
theorem ok__law_are_pairs_right {f : Addr} {fd : FuncData} (F : Fun K "_law_are_pairs_right" "_law_are_pairs_right" s__law_are_pairs_right f fd) (hm : mg "_law_are_pairs_right" = some (.ref f)) (B : Bt mg) (C : Ct mg) (Z : Xt P w K mg base ct) (d_Standing___eq__ : Dfi P w K mg base ct (He.ma K (He.ga K "Standing") "__eq__") 1 2 f_Standing___eq__) (d_Standing___init__ : Dfi P w K mg base ct (He.ma K (He.ga K "Standing") "__init__") 3 3 f_Standing___init__ ∧ DfiW P w K mg base ct (He.ma K (He.ga K "Standing") "__init__") 3 2 0 ["wrong", "right"] [1, 0] f_Standing___init__) (d_Standing___le__ : Dfi P w K mg base ct (He.ma K (He.ga K "Standing") "__le__") 1 2 f_Standing___le__) (d__law_draw : Dfn P w K mg base ct "_law_draw" 1 2 f__law_draw) (d__law_same : Dfn P w K mg base ct "_law_same" 25 2 (F__law_same 25)) (d__law_size : Dfn P w K mg base ct "_law_size" 2 1 f__law_size) : Dfn P w K mg base ct "_law_are_pairs_right" 26 4 f__law_are_pairs_right := by
  have b : Binds K fd ["_law_feed_here", "_law_some", "_law_sure", "_law_off"] [] := F.binds (ps := ["_law_feed_here", "_law_some", "_law_sure", "_law_off"]) (fun _ _ _ _ _ _ us hl => match us, hl with | [_, _, _, _], _ => (by kernel_rfl))
  have sc := sc__law_are_pairs_right
  have G : FnOk P w K mg base (L2.CX P w) 26 f fd ["_law_feed_here", "_law_some", "_law_sure", "_law_off"] (spF ct K 4 f__law_are_pairs_right) := fn_okL Z.TL (N := ["_law_feed_here", "_law_some", "_law_sure", "_law_off", "_law_lap", "_law_one", "_law_two", "_law_other", "_law_alike", "_law_others"]) F sc__law_are_pairs_right (k := 25) (m := m__law_are_pairs_right) (fun cdv A outer s H E hcd hr => by
    have tk : Takes (cxOf (L2.CX P w) P w K mg base ["_law_feed_here", "_law_some", "_law_sure", "_law_off", "_law_lap", "_law_one", "_law_two", "_law_other", "_law_alike", "_law_others"] "_law_are_pairs_right" (defScope s__law_are_pairs_right) f cdv A outer s H E) (WEx E) := takes_of rfl rfl rfl rfl
    exact (sss_cons (ss_for (passes_of rfl) rfl (si_range1 rfl B.n_range (sa_cons se_int sa_nil rfl) rfl) (sg_name (i := 4) sc.nd rfl (.inl rfl) (.inr rfl)) (sss_cons (ss_par (i := 5) (j := 6) rfl sc.nd rfl rfl (by decide) rfl rfl (sa_cons (se_var (i := 2) rfl (.inl rfl) rfl rfl) (sa_cons (se_var (i := 3) rfl (.inl rfl) rfl rfl) sa_nil rfl) rfl) rfl rfl)
      (sss_cons (ss_if (st_cmp (ops_eq hr.units) (se_var (i := 4) rfl (.inl rfl) rfl rfl) se_int rfl) (sss_cons (ss_set (i := 5) (se_op ops_add (se_var (i := 2) rfl (.inl rfl) rfl rfl) (se_fn d__law_draw hr (by decide) tk rfl (san_cons (se_var (i := 0) rfl (.inl rfl) rfl rfl) (san_cons se_int san_nil rfl) rfl) rfl rfl rfl)) sc.nd rfl (.inl rfl) rfl (.inr rfl))
      (sss_one (ss_set (i := 6) (se_if (st_cmp (ops_gt hr.units) (se_var (i := 3) rfl (.inl rfl) rfl rfl) se_int rfl) (se_op ops_sub (se_var (i := 3) rfl (.inl rfl) rfl rfl) (se_fn d__law_draw hr (by decide) tk rfl (san_cons (se_var (i := 0) rfl (.inl rfl) rfl rfl) (san_cons se_int san_nil rfl) rfl) rfl rfl rfl)) se_int) sc.nd rfl (.inl rfl) rfl (.inr rfl)))) sss_nil)
      (sss_cons (ss_if (st_cmp (ops_eq hr.units) (se_var (i := 4) rfl (.inl rfl) rfl rfl) se_int rfl) (sss_one (ss_set (i := 6) (se_fn d__law_size hr (by decide) tk rfl (san_cons (se_var (i := 0) rfl (.inl rfl) rfl rfl) san_nil rfl) rfl rfl rfl) sc.nd rfl (.inl rfl) rfl (.inr rfl))) sss_nil)
      (sss_cons (ss_set (i := 7) (se_make Z.k_Standing d_Standing___init__.1 (hr.mono (by decide)) tk rfl Z.i_Standing.2 (san_cons (se_var (i := 5) rfl (.inl rfl) rfl rfl) (san_cons (se_var (i := 6) rfl (.inl rfl) rfl rfl) san_nil rfl) rfl) rfl rfl rfl) sc.nd rfl (.inl rfl) rfl (.inr rfl))
      (sss_cons (ss_if (st_not (st_val (se_fn d__law_same hr (by decide) tk rfl (san_cons (se_cmp (ops_cmI (op := .LtE) (fun _ _ => rfl) Z.q_Standing___le__ d_Standing___le__ (hr.mono (by decide)) (hu_of hr)) (se_var (i := 1) rfl (.inr (.inl rfl)) rfl rfl) (se_var (i := 7) rfl (.inl rfl) rfl rfl) rfl) (san_cons (se_and (se_cmp (ops_le hr.units) (se_var (i := 2) rfl (.inl rfl) rfl rfl) (se_var (i := 5) rfl (.inl rfl) rfl rfl) rfl) (se_one (se_cmp (ops_le hr.units) (se_var (i := 3) rfl (.inl rfl) rfl rfl) (se_var (i := 6) rfl (.inl rfl) rfl rfl) rfl))) san_nil rfl) rfl) rfl rfl rfl) (fun _ => rfl))) (sss_one (ss_ret se_bl)) sss_nil)
      (sss_cons (ss_if (st_not (st_val (se_fn d__law_same hr (by decide) tk rfl (san_cons (se_cmp (ops_cmI (op := .LtE) (fun _ _ => rfl) Z.q_Standing___le__ d_Standing___le__ (hr.mono (by decide)) (hu_of hr)) (se_var (i := 7) rfl (.inl rfl) rfl rfl) (se_var (i := 1) rfl (.inr (.inl rfl)) rfl rfl) rfl) (san_cons (se_and (se_cmp (ops_le hr.units) (se_var (i := 5) rfl (.inl rfl) rfl rfl) (se_var (i := 2) rfl (.inl rfl) rfl rfl) rfl) (se_one (se_cmp (ops_le hr.units) (se_var (i := 6) rfl (.inl rfl) rfl rfl) (se_var (i := 3) rfl (.inl rfl) rfl rfl) rfl))) san_nil rfl) rfl) rfl rfl rfl) (fun _ => rfl))) (sss_one (ss_ret se_bl)) sss_nil)
      (sss_cons (ss_set (i := 8) (se_and (se_cmp (ops_eq hr.units) (se_var (i := 2) rfl (.inl rfl) rfl rfl) (se_var (i := 5) rfl (.inl rfl) rfl rfl) rfl) (se_one (se_cmp (ops_eq hr.units) (se_var (i := 3) rfl (.inl rfl) rfl rfl) (se_var (i := 6) rfl (.inl rfl) rfl rfl) rfl))) sc.nd rfl (.inl rfl) rfl (.inr rfl))
      (sss_one (ss_if (st_w (sw_or (st_not (st_val (se_fn d__law_same hr (by decide) tk rfl (san_cons (se_cmp (ops_cmI (op := .Eq) (fun _ _ => rfl) Z.q_Standing___eq__ d_Standing___eq__ (hr.mono (by decide)) (hu_of hr)) (se_var (i := 1) rfl (.inr (.inl rfl)) rfl rfl) (se_var (i := 7) rfl (.inl rfl) rfl rfl) rfl) (san_cons (se_var (i := 8) rfl (.inl rfl) rfl rfl) san_nil rfl) rfl) rfl rfl rfl) (fun _ => rfl))) (sw_or1 (st_not (st_val (se_fn d__law_same hr (by decide) tk rfl (san_cons (se_cmp (ops_neJ Z.e_Standing Z.q_Standing___eq__ d_Standing___eq__ (hr.mono (by decide)) (hu_of hr)) (se_var (i := 1) rfl (.inr (.inl rfl)) rfl rfl) (se_var (i := 7) rfl (.inl rfl) rfl rfl) rfl) (san_cons (se_not (se_var (i := 8) rfl (.inl rfl) rfl rfl)) san_nil rfl) rfl) rfl rfl rfl) (fun _ => rfl)))))) (sss_one (ss_ret se_bl)) sss_nil))))))))) (fun _ => rfl))
      (sss_cons (ss_set (i := 9) (se_lst (sa_cons (se_tup (sa_cons (se_var (i := 2) rfl (.inl rfl) rfl rfl) (sa_cons (se_var (i := 3) rfl (.inl rfl) rfl rfl) sa_nil rfl) rfl)) (sa_cons (se_lst (sa_cons (se_var (i := 2) rfl (.inl rfl) rfl rfl) (sa_cons (se_var (i := 3) rfl (.inl rfl) rfl rfl) sa_nil rfl) rfl)) (sa_cons se_non (sa_cons (se_var (i := 2) rfl (.inl rfl) rfl rfl) (sa_cons (se_op ops_add (se_op ops_add (se_op ops_add se_str (se_callTy cs_str rfl B.n_str (by decide +kernel) (sa_cons (se_var (i := 2) rfl (.inl rfl) rfl rfl) sa_nil rfl) (by decide) rfl rfl rfl)) se_str) (se_callTy cs_str rfl B.n_str (by decide +kernel) (sa_cons (se_var (i := 3) rfl (.inl rfl) rfl rfl) sa_nil rfl) (by decide) rfl rfl rfl)) (sa_cons se_bl (sa_cons (se_tup sa_nil) sa_nil rfl) rfl) rfl) rfl) rfl) rfl) rfl)) sc.nd rfl (.inl rfl) rfl (.inr rfl))
      (sss_one (ss_ret (se_cmp (ops_eq hr.units) (se_lc false (ow := [("_law_other", 7)]) rfl sc.nd (si_seq (se_var (i := 9) rfl (.inl rfl) rfl rfl)) (blkOk_by (by kernel_rfl)) (by decide) (fun _ _ _ _ _ => (sg_name (i := 7) sc.nd rfl (.inl rfl) (.inr rfl))) (fun _ _ _ _ _ => (sts_one (st_w (sw_or (st_cmp (ops_cmI (op := .Eq) (fun _ _ => rfl) Z.q_Standing___eq__ d_Standing___eq__ (hr.mono (by decide)) (hu_of hr)) (se_var (i := 1) rfl (by first | exact .inr (.inl rfl) | exact .inr (.inr rfl)) rfl rfl) (se_var (i := 7) rfl (.inl rfl) rfl rfl) rfl) (sw_or1 (st_not (st_cmp (ops_neJ Z.e_Standing Z.q_Standing___eq__ d_Standing___eq__ (hr.mono (by decide)) (hu_of hr)) (se_var (i := 1) rfl (by first | exact .inr (.inl rfl) | exact .inr (.inr rfl)) rfl rfl) (se_var (i := 7) rfl (.inl rfl) rfl rfl) rfl))))))) (fun _ _ _ _ _ => (se_var (i := 7) rfl (.inl rfl) rfl rfl)) (fun _ => rfl)) (se_lst sa_nil) rfl))))))
  exact ⟨f, fd, ["_law_feed_here", "_law_some", "_law_sure", "_law_off"], G, F.kp, b, hm⟩
theorem sc__law_are_refusals_right : FnScope ["_law_feed_here", "_law_some", "_law_good", "_law_due", "_law_told", "_law_odd_here", "_law_other"] ["_law_feed_here", "_law_some", "_law_good"] (defScope s__law_are_refusals_right) := ⟨rfl, rfl, rfl, by decide +kernel, rfl, by decide +kernel, by decide +kernel⟩
def m__law_are_refusals_right : SM :=
    (seqS (unpS [5, 6] (consA (callM (callF f__law_odd) (consA (getV 0) nilA)) (consA (callM (callF f__law_odd) (consA (getV 0) nilA)) nilA)))
    (seqS (setS 3 (lstM (consA (tupM (consA (cst (.str (Str.ofString "usable"))) (consA (cst (.str (Str.ofString "right"))) (consA (negM (cst (.int (1)))) nilA)))) (consA (tupM (consA (cst (.str (Str.ofString "usable"))) (consA (cst (.str (Str.ofString "right"))) (consA (negM (cst (.int (1)))) nilA)))) (consA (tupM (consA (cst (.str (Str.ofString "usable"))) (consA (cst (.str (Str.ofString "wrong"))) (consA (negM (cst (.int (1)))) nilA)))) (consA (tupM (consA (cst (.str (Str.ofString "usable"))) (consA (cst (.str (Str.ofString "budget"))) (consA (negM (cst (.int (1)))) nilA)))) nilA))))))
    (seqS (setS 3 (bin o_add (getV 3) (lstM (consA (tupM (consA (cst (.str (Str.ofString "usable"))) (consA (cst (.str (Str.ofString "other"))) (consA (negM (cst (.int (1)))) nilA)))) (consA (tupM (consA (cst (.str (Str.ofString "usable"))) (consA (cst (.str (Str.ofString "other"))) (consA (negM (cst (.int (1)))) nilA)))) (consA (tupM (consA (cst (.str (Str.ofString "usable"))) (consA (cst (.str (Str.ofString "n"))) (consA (negM (cst (.int (1)))) nilA)))) nilA))))))
    (seqS (setS 4 (ownM (consA (heardG (Str.ofString "told") 4 1 hcs__law_said (callM (makeR (Str.ofString "Standing") f_Standing___init__) (consA (getV 5) (consA (getV 2) nilA)))) nilA)))
    (seqS (dropS (methM isL appendR (getV 4) (consA (heardG (Str.ofString "told") 4 1 hcs__law_said (callM (makeR (Str.ofString "Standing") f_Standing___init__) (consA (getV 5) (consA (getV 6) nilA)))) nilA)))
    (seqS (dropS (methM isL appendR (getV 4) (consA (heardG (Str.ofString "told") 4 1 hcs__law_said (callM (makeR (Str.ofString "Standing") f_Standing___init__) (permA [1, 0] (consA (getV 5) (consA (getV 2) nilA))))) nilA)))
    (seqS (dropS (methM isL appendR (getV 4) (consA (heardG (Str.ofString "told") 4 1 hcs__law_said (selfM (Str.ofString "Standing") none f_Standing___call__ (getV 1) (consA (getV 5) nilA))) nilA)))
    (seqS (dropS (methM isL appendR (getV 4) (consA (heardG (Str.ofString "told") 4 1 hcs__law_said (bin (binI (Str.ofString "Standing") f_Standing___add__) (getV 1) (getV 5))) nilA)))
    (seqS (dropS (methM isL appendR (getV 4) (consA (heardG (Str.ofString "told") 4 1 hcs__law_said (bin (binRI (Str.ofString "Standing") f_Standing___radd__) (getV 5) (getV 1))) nilA)))
    (seqS (dropS (methM isL appendR (getV 4) (consA (heardG (Str.ofString "told") 4 1 hcs__law_said (callM (callF f_Standing_open_at) (consA (getV 5) nilA))) nilA)))
    (retS (bin o_eq (getV 4) (getV 3)))))))))))))
def f__law_are_refusals_right : FM := fnM 7 m__law_are_refusals_right
theorem ok__law_are_refusals_right {f : Addr} {fd : FuncData} (F : Fun K "_law_are_refusals_right" "_law_are_refusals_right" s__law_are_refusals_right f fd) (hm : mg "_law_are_refusals_right" = some (.ref f)) (B : Bt mg) (C : Ct mg) (Z : Xt P w K mg base ct) (d_Standing___add__ : Dfi P w K mg base ct (He.ma K (He.ga K "Standing") "__add__") 5 2 f_Standing___add__) (d_Standing___call__ : Dfi P w K mg base ct (He.ma K (He.ga K "Standing") "__call__") 3 2 f_Standing___call__) (d_Standing___init__ : Dfi P w K mg base ct (He.ma K (He.ga K "Standing") "__init__") 3 3 f_Standing___init__ ∧ DfiW P w K mg base ct (He.ma K (He.ga K "Standing") "__init__") 3 2 0 ["wrong", "right"] [1, 0] f_Standing___init__) (d_Standing___radd__ : Dfi P w K mg base ct (He.ma K (He.ga K "Standing") "__radd__") 5 2 f_Standing___radd__) (d_Standing_open_at : Dfi P w K mg base ct (He5.wf K (He.ga K "Standing") "staticmethod" "open_at") 5 1 f_Standing_open_at ∧ DfiS P w K mg base ct (He5.wf K (He.ga K "Standing") "staticmethod" "open_at") 5 1 0 ["n"] [0] f_Standing_open_at) (d__law_odd : Dfn P w K mg base ct "_law_odd" 3 1 f__law_odd) : Dfn P w K mg base ct "_law_are_refusals_right" 9 3 f__law_are_refusals_right := by
  have b : Binds K fd ["_law_feed_here", "_law_some", "_law_good"] [] := F.binds (ps := ["_law_feed_here", "_law_some", "_law_good"]) (fun _ _ _ _ _ _ us hl => match us, hl with | [_, _, _], _ => (by kernel_rfl))
  have sc := sc__law_are_refusals_right
  have G : FnOk P w K mg base (L2.CX P w) 9 f fd ["_law_feed_here", "_law_some", "_law_good"] (spF ct K 3 f__law_are_refusals_right) := fn_okL Z.TL (N := ["_law_feed_here", "_law_some", "_law_good", "_law_due", "_law_told", "_law_odd_here", "_law_other"]) F sc__law_are_refusals_right (k := 8) (m := m__law_are_refusals_right) (fun cdv A outer s H E hcd hr => by
    have tk : Takes (cxOf (L2.CX P w) P w K mg base ["_law_feed_here", "_law_some", "_law_good", "_law_due", "_law_told", "_law_odd_here", "_law_other"] "_law_are_refusals_right" (defScope s__law_are_refusals_right) f cdv A outer s H E) (WEx E) := takes_of rfl rfl rfl rfl
    exact (sss_cons (ss_unp (n := 2) rfl (pgn_cons (i := 5) sc.nd rfl (.inr rfl) (.inl rfl) (pgn_cons (i := 6) sc.nd rfl (.inr rfl) (.inl rfl) pgn_nil rfl) rfl) (sa_cons (se_fn d__law_odd hr (by decide) tk rfl (san_cons (se_var (i := 0) rfl (.inl rfl) rfl rfl) san_nil rfl) rfl rfl rfl) (sa_cons (se_fn d__law_odd hr (by decide) tk rfl (san_cons (se_var (i := 0) rfl (.inl rfl) rfl rfl) san_nil rfl) rfl rfl rfl) sa_nil rfl) rfl) rfl rfl rfl (by decide) rfl rfl rfl)
      (sss_cons (ss_set (i := 3) (se_lst (sa_cons (se_tup (sa_cons se_str (sa_cons se_str (sa_cons (se_neg se_int) sa_nil rfl) rfl) rfl)) (sa_cons (se_tup (sa_cons se_str (sa_cons se_str (sa_cons (se_neg se_int) sa_nil rfl) rfl) rfl)) (sa_cons (se_tup (sa_cons se_str (sa_cons se_str (sa_cons (se_neg se_int) sa_nil rfl) rfl) rfl)) (sa_cons (se_tup (sa_cons se_str (sa_cons se_str (sa_cons (se_neg se_int) sa_nil rfl) rfl) rfl)) sa_nil rfl) rfl) rfl) rfl)) sc.nd rfl (.inl rfl) rfl (.inr rfl))
      (sss_cons (ss_set (i := 3) (se_op ops_add (se_var (i := 3) rfl (.inl rfl) rfl rfl) (se_lst (sa_cons (se_tup (sa_cons se_str (sa_cons se_str (sa_cons (se_neg se_int) sa_nil rfl) rfl) rfl)) (sa_cons (se_tup (sa_cons se_str (sa_cons se_str (sa_cons (se_neg se_int) sa_nil rfl) rfl) rfl)) (sa_cons (se_tup (sa_cons se_str (sa_cons se_str (sa_cons (se_neg se_int) sa_nil rfl) rfl) rfl)) sa_nil rfl) rfl) rfl))) sc.nd rfl (.inl rfl) rfl (.inr rfl))
      (sss_cons (ss_set (i := 4) (se_own (sa_cons (se_heardG (k := 4) Z.h__law_said rfl Z.TL hcd rfl (hr.mono (by decide)) (LamX.lamS_by (by kernel_rfl)) rfl (fun _ _ _ _ _ => rfl) (fun A outer s H E f c2 hr => (se_make Z.k_Standing d_Standing___init__.1 (hr.mono (by decide)) (takes_of rfl rfl rfl rfl) rfl Z.i_Standing.2 (san_cons (se_var (i := 5) rfl (by first | exact .inr (.inl rfl) | exact .inr (.inr rfl)) rfl rfl) (san_cons (se_var (i := 2) rfl (by first | exact .inr (.inl rfl) | exact .inr (.inr rfl)) rfl rfl) san_nil rfl) rfl) rfl rfl rfl)) rfl) sa_nil rfl)) sc.nd rfl (.inl rfl) rfl (.inr rfl))
      (sss_cons (ss_expr (se_append (se_var (i := 4) rfl (.inl rfl) rfl rfl) (sa_cons (se_heardG (k := 4) Z.h__law_said rfl Z.TL hcd rfl (hr.mono (by decide)) (LamX.lamS_by (by kernel_rfl)) rfl (fun _ _ _ _ _ => rfl) (fun A outer s H E f c2 hr => (se_make Z.k_Standing d_Standing___init__.1 (hr.mono (by decide)) (takes_of rfl rfl rfl rfl) rfl Z.i_Standing.2 (san_cons (se_var (i := 5) rfl (by first | exact .inr (.inl rfl) | exact .inr (.inr rfl)) rfl rfl) (san_cons (se_var (i := 6) rfl (by first | exact .inr (.inl rfl) | exact .inr (.inr rfl)) rfl rfl) san_nil rfl) rfl) rfl rfl rfl)) rfl) sa_nil rfl) rfl rfl rfl rfl rfl) rfl)
      (sss_cons (ss_expr (se_append (se_var (i := 4) rfl (.inl rfl) rfl rfl) (sa_cons (se_heardG (k := 4) Z.h__law_said rfl Z.TL hcd rfl (hr.mono (by decide)) (LamX.lamS_by (by kernel_rfl)) rfl (fun _ _ _ _ _ => rfl) (fun A outer s H E f c2 hr => (se_makeW0 ["wrong", "right"] [1, 0] Z.k_Standing d_Standing___init__.2 rfl rfl (hr.mono (by decide)) (takes_of rfl rfl rfl rfl) rfl Z.i_Standing.2 (sk_cons (se_var (i := 5) rfl (by first | exact .inr (.inl rfl) | exact .inr (.inr rfl)) rfl rfl) (sk_cons (se_var (i := 2) rfl (by first | exact .inr (.inl rfl) | exact .inr (.inr rfl)) rfl rfl) sk_nil)) rfl rfl rfl rfl)) rfl) sa_nil rfl) rfl rfl rfl rfl rfl) rfl)
      (sss_cons (ss_expr (se_append (se_var (i := 4) rfl (.inl rfl) rfl rfl) (sa_cons (se_heardG (k := 4) Z.h__law_said rfl Z.TL hcd rfl (hr.mono (by decide)) (LamX.lamS_by (by kernel_rfl)) rfl (fun _ _ _ _ _ => rfl) (fun A outer s H E f c2 hr => (se_callI Z.o_Standing d_Standing___call__ (hr.mono (by decide)) (takes_of rfl rfl rfl rfl) (se_var (i := 1) rfl (by first | exact .inr (.inl rfl) | exact .inr (.inr rfl)) rfl rfl) (san_cons (se_var (i := 5) rfl (by first | exact .inr (.inl rfl) | exact .inr (.inr rfl)) rfl rfl) san_nil rfl) rfl rfl rfl)) rfl) sa_nil rfl) rfl rfl rfl rfl rfl) rfl)
      (sss_cons (ss_expr (se_append (se_var (i := 4) rfl (.inl rfl) rfl rfl) (sa_cons (se_heardG (k := 6) Z.h__law_said rfl Z.TL hcd rfl (hr.mono (by decide)) (LamX.lamS_by (by kernel_rfl)) rfl (fun _ _ _ _ _ => rfl) (fun A outer s H E f c2 hr => (se_binI (op := .Add) Z.b_Standing_add d_Standing___add__ (hr.mono (by decide)) (takes_of rfl rfl rfl rfl) (se_var (i := 1) rfl (by first | exact .inr (.inl rfl) | exact .inr (.inr rfl)) rfl rfl) (se_var (i := 5) rfl (by first | exact .inr (.inl rfl) | exact .inr (.inr rfl)) rfl rfl))) rfl) sa_nil rfl) rfl rfl rfl rfl rfl) rfl)
      (sss_cons (ss_expr (se_append (se_var (i := 4) rfl (.inl rfl) rfl rfl) (sa_cons (se_heardG (k := 6) Z.h__law_said rfl Z.TL hcd rfl (hr.mono (by decide)) (LamX.lamS_by (by kernel_rfl)) rfl (fun _ _ _ _ _ => rfl) (fun A outer s H E f c2 hr => (se_binRI Z.b_Standing_add Z.q_Standing___radd__ Z.e_Standing d_Standing___radd__ (hr.mono (by decide)) (takes_of rfl rfl rfl rfl) (se_var (i := 5) rfl (by first | exact .inr (.inl rfl) | exact .inr (.inr rfl)) rfl rfl) (se_var (i := 1) rfl (by first | exact .inr (.inl rfl) | exact .inr (.inr rfl)) rfl rfl))) rfl) sa_nil rfl) rfl rfl rfl rfl rfl) rfl)
      (sss_cons (ss_expr (se_append (se_var (i := 4) rfl (.inl rfl) rfl rfl) (sa_cons (se_heardG (k := 6) Z.h__law_said rfl Z.TL hcd rfl (hr.mono (by decide)) (LamX.lamS_by (by kernel_rfl)) rfl (fun _ _ _ _ _ => rfl) (fun A outer s H E f c2 hr => (se_smeth rfl Z.i_Standing.2 rfl Z.r_Standing Z.t_Standing_open_at d_Standing_open_at.1 (hr.mono (by decide)) (takes_of rfl rfl rfl rfl) (san_cons (se_var (i := 5) rfl (by first | exact .inr (.inl rfl) | exact .inr (.inr rfl)) rfl rfl) san_nil rfl) rfl rfl rfl)) rfl) sa_nil rfl) rfl rfl rfl rfl rfl) rfl)
      (sss_one (ss_ret (se_cmp (ops_eq hr.units) (se_var (i := 4) rfl (.inl rfl) rfl rfl) (se_var (i := 3) rfl (.inl rfl) rfl rfl) rfl))))))))))))))
  exact ⟨f, fd, ["_law_feed_here", "_law_some", "_law_good"], G, F.kp, b, hm⟩
theorem sc_law : FnScope ["_law_script", "_law_feed_here", "_law_lap", "_law_sure", "_law_off", "_law_some"] ["_law_script"] (defScope s_law) := ⟨rfl, rfl, rfl, by decide +kernel, rfl, by decide +kernel, by decide +kernel⟩
def m_law : SM :=
    (seqS (setS 1 (callM (callF f__law_feed) (consA (getV 0) nilA)))
    (seqS (forS (rng1 (consA (cst (.int (3))) nilA)) (tgName 2) (seqS (parS 3 4 (consA (callM (callF f__law_size) (consA (getV 1) nilA)) (consA (callM (callF f__law_size) (consA (getV 1) nilA)) nilA)))
    (seqS (setS 4 (ifM (asB (bin o_eq (callM (callF f__law_draw) (consA (getV 1) (consA (cst (.int (5))) nilA))) (cst (.int (0))))) (getV 3) (getV 4)))
    (seqS (setS 5 (ifM (asB (bin o_gt (getV 2) (cst (.int (0))))) (callM (makeR (Str.ofString "Standing") f_Standing___init__) (consA (getV 3) (consA (getV 4) nilA))) (callM (makeR (Str.ofString "Standing") f_Standing___init__) (permA [1, 0] (consA (getV 4) (consA (getV 3) nilA))))))
    (seqS (ifS (orM (notM (asB (callM (callF f__law_is) (consA (getV 5) (consA (getV 3) (consA (getV 4) nilA)))))) (notM (asB (callM (callF f__law_are_answers_right) (consA (getV 1) (consA (getV 5) (consA (getV 3) (consA (getV 4) nilA)))))))) (retS (cst (.bool false))) skipS)
    (seqS (ifS (orM (notM (asB (callM (callF f__law_are_sums_right) (consA (getV 1) (consA (getV 5) (consA (getV 3) (consA (getV 4) nilA))))))) (notM (asB (callM (callF f__law_are_pairs_right) (consA (getV 1) (consA (getV 5) (consA (getV 3) (consA (getV 4) nilA)))))))) (retS (cst (.bool false))) skipS)
    (ifS (orM (notM (asB (callM (callF f__law_are_refusals_right) (consA (getV 1) (consA (getV 5) (consA (getV 3) nilA)))))) (notM (asB (callM (callF f__law_is) (consA (getV 5) (consA (getV 3) (consA (getV 4) nilA))))))) (retS (cst (.bool false))) skipS)))))))
    (retS (cst (.bool true)))))
def f_law : FM := fnM 6 m_law
theorem okF_law {f : Addr} {fd : FuncData} (F : Fun K "law" "law" s_law f fd) (hm : mg "law" = some (.ref f)) (B : Bt mg) (C : Ct mg) (Z : Xt P w K mg base ct) (d_Standing___init__ : Dfi P w K mg base ct (He.ma K (He.ga K "Standing") "__init__") 3 3 f_Standing___init__ ∧ DfiW P w K mg base ct (He.ma K (He.ga K "Standing") "__init__") 3 2 0 ["wrong", "right"] [1, 0] f_Standing___init__) (d__law_are_answers_right : Dfn P w K mg base ct "_law_are_answers_right" 6 4 f__law_are_answers_right) (d__law_are_pairs_right : Dfn P w K mg base ct "_law_are_pairs_right" 26 4 f__law_are_pairs_right) (d__law_are_refusals_right : Dfn P w K mg base ct "_law_are_refusals_right" 9 3 f__law_are_refusals_right) (d__law_are_sums_right : Dfn P w K mg base ct "_law_are_sums_right" 27 4 f__law_are_sums_right) (d__law_draw : Dfn P w K mg base ct "_law_draw" 1 2 f__law_draw) (d__law_feed : Dfn P w K mg base ct "_law_feed" 1 1 f__law_feed) (d__law_is : Dfn P w K mg base ct "_law_is" 26 3 f__law_is) (d__law_size : Dfn P w K mg base ct "_law_size" 2 1 f__law_size) : FnOk P w K mg base (L2.CX P w) 28 f fd ["_law_script"] (spF ct K 1 f_law) := by
  have b : Binds K fd ["_law_script"] [] := F.binds (ps := ["_law_script"]) (fun _ _ _ _ _ _ us hl => match us, hl with | [_], _ => (by kernel_rfl))
  have sc := sc_law
  have G : FnOk P w K mg base (L2.CX P w) 28 f fd ["_law_script"] (spF ct K 1 f_law) := fn_okL Z.TL (N := ["_law_script", "_law_feed_here", "_law_lap", "_law_sure", "_law_off", "_law_some"]) F sc_law (k := 27) (m := m_law) (fun cdv A outer s H E hcd hr => by
    have tk : Takes (cxOf (L2.CX P w) P w K mg base ["_law_script", "_law_feed_here", "_law_lap", "_law_sure", "_law_off", "_law_some"] "law" (defScope s_law) f cdv A outer s H E) (WEx E) := takes_of rfl rfl rfl rfl
    exact (sss_cons (ss_set (i := 1) (se_fn d__law_feed hr (by decide) tk rfl (san_cons (se_var (i := 0) rfl (.inl rfl) rfl rfl) san_nil rfl) rfl rfl rfl) sc.nd rfl (.inl rfl) rfl (.inr rfl))
      (sss_cons (ss_for (passes_of rfl) rfl (si_range1 rfl B.n_range (sa_cons se_int sa_nil rfl) rfl) (sg_name (i := 2) sc.nd rfl (.inl rfl) (.inr rfl)) (sss_cons (ss_par (i := 3) (j := 4) rfl sc.nd rfl rfl (by decide) rfl rfl (sa_cons (se_fn d__law_size hr (by decide) tk rfl (san_cons (se_var (i := 1) rfl (.inl rfl) rfl rfl) san_nil rfl) rfl rfl rfl) (sa_cons (se_fn d__law_size hr (by decide) tk rfl (san_cons (se_var (i := 1) rfl (.inl rfl) rfl rfl) san_nil rfl) rfl rfl rfl) sa_nil rfl) rfl) rfl rfl)
      (sss_cons (ss_set (i := 4) (se_if (st_cmp (ops_eq hr.units) (se_fn d__law_draw hr (by decide) tk rfl (san_cons (se_var (i := 1) rfl (.inl rfl) rfl rfl) (san_cons se_int san_nil rfl) rfl) rfl rfl rfl) se_int rfl) (se_var (i := 3) rfl (.inl rfl) rfl rfl) (se_var (i := 4) rfl (.inl rfl) rfl rfl)) sc.nd rfl (.inl rfl) rfl (.inr rfl))
      (sss_cons (ss_set (i := 5) (se_if (st_cmp (ops_gt hr.units) (se_var (i := 2) rfl (.inl rfl) rfl rfl) se_int rfl) (se_make Z.k_Standing d_Standing___init__.1 (hr.mono (by decide)) tk rfl Z.i_Standing.2 (san_cons (se_var (i := 3) rfl (.inl rfl) rfl rfl) (san_cons (se_var (i := 4) rfl (.inl rfl) rfl rfl) san_nil rfl) rfl) rfl rfl rfl) (se_makeW0 ["wrong", "right"] [1, 0] Z.k_Standing d_Standing___init__.2 rfl rfl (hr.mono (by decide)) tk rfl Z.i_Standing.2 (sk_cons (se_var (i := 4) rfl (.inl rfl) rfl rfl) (sk_cons (se_var (i := 3) rfl (.inl rfl) rfl rfl) sk_nil)) rfl rfl rfl rfl)) sc.nd rfl (.inl rfl) rfl (.inr rfl))
      (sss_cons (ss_if (st_w (sw_or (st_not (st_val (se_fn d__law_is hr (by decide) tk rfl (san_cons (se_var (i := 5) rfl (.inl rfl) rfl rfl) (san_cons (se_var (i := 3) rfl (.inl rfl) rfl rfl) (san_cons (se_var (i := 4) rfl (.inl rfl) rfl rfl) san_nil rfl) rfl) rfl) rfl rfl rfl) (fun _ => rfl))) (sw_or1 (st_not (st_val (se_fn d__law_are_answers_right hr (by decide) tk rfl (san_cons (se_var (i := 1) rfl (.inl rfl) rfl rfl) (san_cons (se_var (i := 5) rfl (.inl rfl) rfl rfl) (san_cons (se_var (i := 3) rfl (.inl rfl) rfl rfl) (san_cons (se_var (i := 4) rfl (.inl rfl) rfl rfl) san_nil rfl) rfl) rfl) rfl) rfl rfl rfl) (fun _ => rfl)))))) (sss_one (ss_ret se_bl)) sss_nil)
      (sss_cons (ss_if (st_w (sw_or (st_not (st_val (se_fn d__law_are_sums_right hr (by decide) tk rfl (san_cons (se_var (i := 1) rfl (.inl rfl) rfl rfl) (san_cons (se_var (i := 5) rfl (.inl rfl) rfl rfl) (san_cons (se_var (i := 3) rfl (.inl rfl) rfl rfl) (san_cons (se_var (i := 4) rfl (.inl rfl) rfl rfl) san_nil rfl) rfl) rfl) rfl) rfl rfl rfl) (fun _ => rfl))) (sw_or1 (st_not (st_val (se_fn d__law_are_pairs_right hr (by decide) tk rfl (san_cons (se_var (i := 1) rfl (.inl rfl) rfl rfl) (san_cons (se_var (i := 5) rfl (.inl rfl) rfl rfl) (san_cons (se_var (i := 3) rfl (.inl rfl) rfl rfl) (san_cons (se_var (i := 4) rfl (.inl rfl) rfl rfl) san_nil rfl) rfl) rfl) rfl) rfl rfl rfl) (fun _ => rfl)))))) (sss_one (ss_ret se_bl)) sss_nil)
      (sss_one (ss_if (st_w (sw_or (st_not (st_val (se_fn d__law_are_refusals_right hr (by decide) tk rfl (san_cons (se_var (i := 1) rfl (.inl rfl) rfl rfl) (san_cons (se_var (i := 5) rfl (.inl rfl) rfl rfl) (san_cons (se_var (i := 3) rfl (.inl rfl) rfl rfl) san_nil rfl) rfl) rfl) rfl rfl rfl) (fun _ => rfl))) (sw_or1 (st_not (st_val (se_fn d__law_is hr (by decide) tk rfl (san_cons (se_var (i := 5) rfl (.inl rfl) rfl rfl) (san_cons (se_var (i := 3) rfl (.inl rfl) rfl rfl) (san_cons (se_var (i := 4) rfl (.inl rfl) rfl rfl) san_nil rfl) rfl) rfl) rfl rfl rfl) (fun _ => rfl)))))) (sss_one (ss_ret se_bl)) sss_nil))))))) (fun _ => rfl))
      (sss_one (ss_ret se_bl)))))
  exact G
end RB.Law
end
/-! text K35facts -/
section
set_option Elab.async false
set_option linter.all false
set_option maxRecDepth 100000
set_option maxHeartbeats 0
namespace RB.Law
open PySem PySem.Spec PyProof.Rows L2 RB
theorem facts {w : World} {K : PySem.W.Frag} [WC K] (hwc : WC.w K = w) {h : Heap} {mg : Str → Option Value} {f : Addr} (X : K.In h) (G : h.Ns mainGlobals mg) (hfa : mg ("law" : Str) = some (.ref f)) (cM : SaysM faL fnL xsL emL gsL coL PP.main.file h K) :
    ∃ fd : FuncData, (∀ (s : Shared) (v : Value), BindsTo s fd ⟨[v], []⟩ [("_law_script", v)]) ∧ ∀ base : Heap, K.In base → base.Ns mainGlobals mg → (∀ p ∈ csOf K, LamX.TabB base mg p.1 p.2) → FnOk PP w K mg base (L2.CX PP w) 28 f fd ["_law_script"] (spF (fun x => some (He.ga K x)) K 1 f_law) := by
  have cE := cM.e
  have c := cE.r
  obtain ⟨fd0, F0⟩ := c.t.def_ 0 (d := dd "is_integer" s_is_integer) rfl
  have g0 := He.glo_ok X G (c.t.fact 0 (f := .glo "is_integer") rfl)
  obtain ⟨fd1, F1⟩ := c.t.def_ 1 (d := dd "is_number" s_is_number) rfl
  have g1 := He.glo_ok X G (c.t.fact 1 (f := .glo "is_number") rfl)
  obtain ⟨fd2, F2⟩ := c.t.def_ 2 (d := dd "_law_feed" s__law_feed) rfl
  have g2 := He.glo_ok X G (c.t.fact 2 (f := .glo "_law_feed") rfl)
  obtain ⟨fd3, F3⟩ := c.t.def_ 3 (d := dd "_law_draw" s__law_draw) rfl
  have g3 := He.glo_ok X G (c.t.fact 3 (f := .glo "_law_draw") rfl)
  obtain ⟨fd4, F4⟩ := c.t.def_ 4 (d := dd "_law_any" s__law_any) rfl
  have g4 := He.glo_ok X G (c.t.fact 4 (f := .glo "_law_any") rfl)
  obtain ⟨fd5, F5⟩ := c.t.def_ 5 (d := dd "_law_same" s__law_same) rfl
  have g5 := He.glo_ok X G (c.t.fact 5 (f := .glo "_law_same") rfl)
  obtain ⟨fd6, F6⟩ := c.t.def_ 6 (d := dd "_law_size" s__law_size) rfl
  have g6 := He.glo_ok X G (c.t.fact 6 (f := .glo "_law_size") rfl)
  obtain ⟨fd7, F7⟩ := c.t.def_ 7 (d := dd "_law_odd" s__law_odd) rfl
  have g7 := He.glo_ok X G (c.t.fact 7 (f := .glo "_law_odd") rfl)
  obtain ⟨fd8, F8⟩ := c.t.def_ 8 (d := dd "_law_word" s__law_word) rfl
  have g8 := He.glo_ok X G (c.t.fact 8 (f := .glo "_law_word") rfl)
  obtain ⟨fd9, F9⟩ := c.t.def_ 9 (d := dd "_law_lesser" s__law_lesser) rfl
  have g9 := He.glo_ok X G (c.t.fact 9 (f := .glo "_law_lesser") rfl)
  obtain ⟨fd10, F10⟩ := c.t.def_ 10 (d := ⟨("Standing", some "__str__"), "__str__", "Standing.__str__", defArgs s_Standing___str__, defBody s_Standing___str__, defScope s_Standing___str__, [], []⟩) rfl
  obtain ⟨fd11, F11⟩ := c.t.def_ 11 (d := dd "_law_is" s__law_is) rfl
  have g11 := He.glo_ok X G (c.t.fact 11 (f := .glo "_law_is") rfl)
  obtain ⟨fd12, F12⟩ := c.t.def_ 12 (d := ⟨("Standing", some "__call__"), "__call__", "Standing.__call__", defArgs s_Standing___call__, defBody s_Standing___call__, defScope s_Standing___call__, [], []⟩) rfl
  obtain ⟨fd13, F13⟩ := c.t.def_ 13 (d := ⟨("Standing", some "__init__"), "__init__", "Standing.__init__", defArgs s_Standing___init__, defBody s_Standing___init__, defScope s_Standing___init__, [], []⟩) rfl
  obtain ⟨fd14, F14⟩ := c.t.def_ 14 (d := ⟨("Standing", some "__neg__"), "__neg__", "Standing.__neg__", defArgs s_Standing___neg__, defBody s_Standing___neg__, defScope s_Standing___neg__, [], []⟩) rfl
  obtain ⟨fd15, F15⟩ := c.t.def_ 15 (d := dd "_law_are_answers_right" s__law_are_answers_right) rfl
  have g15 := He.glo_ok X G (c.t.fact 15 (f := .glo "_law_are_answers_right") rfl)
  obtain ⟨fd16, F16⟩ := c.t.def_ 16 (d := ⟨("Standing", some "__add__"), "__add__", "Standing.__add__", defArgs s_Standing___add__, defBody s_Standing___add__, defScope s_Standing___add__, [], []⟩) rfl
  obtain ⟨fd17, F17⟩ := c.t.def_ 17 (d := ⟨("Standing", some "__radd__"), "__radd__", "Standing.__radd__", defArgs s_Standing___radd__, defBody s_Standing___radd__, defScope s_Standing___radd__, [], []⟩) rfl
  obtain ⟨fd18, F18⟩ := c.t.def_ 18 (d := dd "_law_are_sums_right" s__law_are_sums_right) rfl
  have g18 := He.glo_ok X G (c.t.fact 18 (f := .glo "_law_are_sums_right") rfl)
  obtain ⟨fd19, F19⟩ := c.t.def_ 19 (d := ⟨("Standing", some "__eq__"), "__eq__", "Standing.__eq__", defArgs s_Standing___eq__, defBody s_Standing___eq__, defScope s_Standing___eq__, [], []⟩) rfl
  obtain ⟨fd20, F20⟩ := c.t.def_ 20 (d := ⟨("Standing", some "__le__"), "__le__", "Standing.__le__", defArgs s_Standing___le__, defBody s_Standing___le__, defScope s_Standing___le__, [], []⟩) rfl
  obtain ⟨fd21, F21⟩ := c.t.def_ 21 (d := dd "_law_are_pairs_right" s__law_are_pairs_right) rfl
  have g21 := He.glo_ok X G (c.t.fact 21 (f := .glo "_law_are_pairs_right") rfl)
  obtain ⟨fd22, F22⟩ := c.t.def_ 22 (d := dd "_law_are_refusals_right" s__law_are_refusals_right) rfl
  have g22 := He.glo_ok X G (c.t.fact 22 (f := .glo "_law_are_refusals_right") rfl)
  obtain ⟨fd23, F23⟩ := c.t.def_ 23 (d := dd "law" s_law) rfl
  have g23 := He.glo_ok X G (c.t.fact 23 (f := .glo "law") rfl)
  obtain ⟨fd24, F24⟩ := c.t.def_ 24 (d := dd "_law_said" s__law_said) rfl
  have g24 := He.glo_ok X G (c.t.fact 24 (f := .glo "_law_said") rfl)
  have e := hfa.symm.trans g23
  cases e
  have B : Bt mg := { n_bool := He.free_ok X G (c.t.fact 25 (f := .free "bool") rfl), n_int := He.free_ok X G (c.t.fact 26 (f := .free "int") rfl), n_isinstance := He.free_ok X G (c.t.fact 27 (f := .free "isinstance") rfl), n_len := He.free_ok X G (c.t.fact 28 (f := .free "len") rfl), n_list := He.free_ok X G (c.t.fact 29 (f := .free "list") rfl), n_range := He.free_ok X G (c.t.fact 30 (f := .free "range") rfl), n_str := He.free_ok X G (c.t.fact 31 (f := .free "str") rfl), n_tuple := He.free_ok X G (c.t.fact 32 (f := .free "tuple") rfl) }
  have C : Ct mg := { n_ := trivial }
  have b := FunD.bindsA (ps := ["_law_script"]) F23 fun _ _ _ _ _ _ us hl => match us, hl with | [_], _ => rfl
  have X_InvalidPaper : Exc PP K mg (fun x => some (He.ga K x)) "InvalidPaper" "word" "at" := c.exc X G 0 (d := xd_InvalidPaper) rfl xp_InvalidPaper
  have X_NotUsable : Exc PP K mg (fun x => some (He.ga K x)) "NotUsable" "word" "at" := c.exc X G 1 (d := xd_NotUsable) rfl xp_NotUsable
  refine ⟨fd23, fun s v => b s [v] rfl, fun base _ _ hTB => ?_⟩
  obtain ⟨fdp0, Fp0, Pp0⟩ := cM.get 0 (d := ⟨"Standing", "base", "Standing.base", s_Standing_base, "property"⟩) rfl rfl
  obtain ⟨fdp1, Fp1, Pp1⟩ := cM.getC 1 (d := ⟨"Standing", "open_at", "Standing.open_at", s_Standing_open_at, "staticmethod"⟩) rfl (by decide)
  have H__law_said : HrdG PP w K mg base (fun x => some (He.ga K x)) "_law_said" "told" 4 1 hcs__law_said := ⟨["_law_ask", "_law_found", "e", "_law_sorts"], _, _, s__law_said, "_law_ask", "e", "_law_found", "RebuiltError", initOfG (defBody s__law_said), hb0__law_said, hbt__law_said, jh__law_said, qh__law_said, 2, _, rfl, { fn := fun_of (st := s__law_said) F24, m := g24, b := (fun_of (st := s__law_said) F24).binds (ps := ["_law_ask"]) (fun _ _ _ _ _ _ us hl => match us, hl with | [_], _ => (by kernel_rfl)), sc := sc__law_said, bd := by kernel_rfl, nd := sc__law_said.nd, h0 := rfl, hfi := rfl, hei := rfl, hfe := by decide, hf0 := by decide, hge := rfl, hme := (He.glo_ok X G (c.t.fact 33 (f := .glo "RebuiltError") rfl)), hde := rfl, hle := rfl, hlf := rfl, hfd := rfl, hfc := rfl, hst := fun _ => ⟨rfl, rfl⟩, hini := fun cdg A stk s H => ini_tup2 pe_str pe_non rfl rfl, hsw0 := fun _ => rfl, hsw1 := fun _ => rfl, va := .inl rfl, ad := rfl, ac := rfl, hsu := List.forall_mem_cons.mpr ⟨cat_ok X_InvalidPaper (He.glo_ok X G (c.t.fact 34 (f := .glo "InvalidPaper") rfl)) (of_decide_eq_true (cM.fc 8 (x := .exc "InvalidPaper" "RebuiltError" true) rfl)) (fun xf n1 n2 => hs__law_said_InvalidPaper B xf n1 n2 (exo_ok (cM.fc 9 (x := .exo "InvalidPaper") rfl)) (of_decide_eq_true (cM.fc 10 (x := .eis "InvalidPaper" "BookError" false) rfl)) (of_decide_eq_true (cM.fc 11 (x := .eis "InvalidPaper" "InvalidPaper" true) rfl)) (of_decide_eq_true (cM.fc 12 (x := .eis "InvalidPaper" "NotCalm" false) rfl)) (of_decide_eq_true (cM.fc 13 (x := .eis "InvalidPaper" "NotUsable" false) rfl)) (of_decide_eq_true (cM.fc 14 (x := .eis "InvalidPaper" "PaperError" true) rfl)) (of_decide_eq_true (cM.fc 15 (x := .eis "InvalidPaper" "TextError" false) rfl)) (of_decide_eq_true (cM.fc 16 (x := .eis "InvalidPaper" "WatchError" false) rfl)) (He.glo_ok X G (c.t.fact 36 (f := .glo "BookError") rfl)) (He.glo_ok X G (c.t.fact 34 (f := .glo "InvalidPaper") rfl)) (He.glo_ok X G (c.t.fact 37 (f := .glo "NotCalm") rfl)) (He.glo_ok X G (c.t.fact 35 (f := .glo "NotUsable") rfl)) (He.glo_ok X G (c.t.fact 38 (f := .glo "PaperError") rfl)) (He.glo_ok X G (c.t.fact 39 (f := .glo "TextError") rfl)) (He.glo_ok X G (c.t.fact 40 (f := .glo "WatchError") rfl))), List.forall_mem_cons.mpr ⟨cat_ok X_NotUsable (He.glo_ok X G (c.t.fact 35 (f := .glo "NotUsable") rfl)) (of_decide_eq_true (cM.fc 17 (x := .exc "NotUsable" "RebuiltError" true) rfl)) (fun xf n1 n2 => hs__law_said_NotUsable B xf n1 n2 (exo_ok (cM.fc 18 (x := .exo "NotUsable") rfl)) (of_decide_eq_true (cM.fc 19 (x := .eis "NotUsable" "BookError" true) rfl)) (of_decide_eq_true (cM.fc 20 (x := .eis "NotUsable" "InvalidPaper" false) rfl)) (of_decide_eq_true (cM.fc 21 (x := .eis "NotUsable" "NotCalm" false) rfl)) (of_decide_eq_true (cM.fc 22 (x := .eis "NotUsable" "NotUsable" true) rfl)) (of_decide_eq_true (cM.fc 23 (x := .eis "NotUsable" "PaperError" false) rfl)) (of_decide_eq_true (cM.fc 24 (x := .eis "NotUsable" "TextError" false) rfl)) (of_decide_eq_true (cM.fc 25 (x := .eis "NotUsable" "WatchError" false) rfl)) (He.glo_ok X G (c.t.fact 36 (f := .glo "BookError") rfl)) (He.glo_ok X G (c.t.fact 34 (f := .glo "InvalidPaper") rfl)) (He.glo_ok X G (c.t.fact 37 (f := .glo "NotCalm") rfl)) (He.glo_ok X G (c.t.fact 35 (f := .glo "NotUsable") rfl)) (He.glo_ok X G (c.t.fact 38 (f := .glo "PaperError") rfl)) (He.glo_ok X G (c.t.fact 39 (f := .glo "TextError") rfl)) (He.glo_ok X G (c.t.fact 40 (f := .glo "WatchError") rfl))), fun _ h => absurd h (by simp)⟩⟩ }⟩
  have Z : Xt PP w K mg base (fun x => some (He.ga K x)) := { TL := c.tabs hTB, wc := hwc, x_InvalidPaper := X_InvalidPaper, x_NotUsable := X_NotUsable, h__law_said := H__law_said, i_Standing := ⟨He.cls_ok (c.t.fact 41 (f := .cls "Standing") rfl), He.glo_ok X G (c.t.fact 42 (f := .glo "Standing") rfl)⟩, k_Standing := He.mkr_ok (c.t.fact 43 (f := .mkr "Standing") rfl), n_Standing_right := He.noat_ok (c.t.fact 44 (f := .noat "Standing" "right") rfl), n_Standing_wrong := He.noat_ok (c.t.fact 45 (f := .noat "Standing" "wrong") rfl), m_Standing___call__ := He.meth_ok (c.t.fact 46 (f := .meth "Standing" "__call__") rfl), m_Standing___str__ := He.meth_ok (c.t.fact 47 (f := .meth "Standing" "__str__") rfl), o_Standing := cal_ok (cM.fc 0 (x := .cal "Standing") rfl) (He.meth_ok (c.t.fact 46 (f := .meth "Standing" "__call__") rfl)), s_Standing := cM.fc 1 (x := .isi "Standing") rfl, e_Standing := cM.fc 2 (x := .oe "Standing") rfl, b_Standing_add := cM.fc 3 (x := .bin "Standing" "add" "__add__") rfl, q_Standing___eq__ := cM.fc 4 (x := .cmp "Standing" "__eq__") rfl, q_Standing___le__ := cM.fc 5 (x := .cmp "Standing" "__le__") rfl, q_Standing___neg__ := cM.fc 6 (x := .cmp "Standing" "__neg__") rfl, q_Standing___radd__ := cM.fc 7 (x := .cmp "Standing" "__radd__") rfl, p_Standing_base := Pp0, r_Standing := crd_ok Pp1, t_Standing_open_at := smt_ok Pp1 rfl Fp1.kp }
  have D_is_integer : Dfn PP w K mg base (fun x => some (He.ga K x)) "is_integer" 1 1 f_is_integer := ok_is_integer (fun_of F0) g0 B C Z 
  have D_is_number : Dfn PP w K mg base (fun x => some (He.ga K x)) "is_number" 2 1 f_is_number := ok_is_number (fun_of F1) g1 B C Z D_is_integer
  have D__law_feed : Dfn PP w K mg base (fun x => some (He.ga K x)) "_law_feed" 1 1 f__law_feed := ok__law_feed (fun_of F2) g2 B C Z 
  have D__law_draw : Dfn PP w K mg base (fun x => some (He.ga K x)) "_law_draw" 1 2 f__law_draw := ok__law_draw (fun_of F3) g3 B C Z 
  have D__law_any : Dfn PP w K mg base (fun x => some (He.ga K x)) "_law_any" 2 2 f__law_any := ok__law_any (fun_of F4) g4 B C Z D__law_draw
  have D__law_same : Dfn PP w K mg base (fun x => some (He.ga K x)) "_law_same" 25 2 (F__law_same 25) := ok__law_same (fun_of F5) g5 B C Z  25
  have D__law_size : Dfn PP w K mg base (fun x => some (He.ga K x)) "_law_size" 2 1 f__law_size := ok__law_size (fun_of F6) g6 B C Z D__law_draw
  have D__law_odd : Dfn PP w K mg base (fun x => some (He.ga K x)) "_law_odd" 3 1 f__law_odd := ok__law_odd (fun_of F7) g7 B C Z D__law_any
  have D__law_word : Dfn PP w K mg base (fun x => some (He.ga K x)) "_law_word" 1 3 f__law_word := ok__law_word (fun_of F8) g8 B C Z 
  have D__law_lesser : Dfn PP w K mg base (fun x => some (He.ga K x)) "_law_lesser" 1 2 f__law_lesser := ok__law_lesser (fun_of F9) g9 B C Z 
  have D_Standing___str__ : Dfi PP w K mg base (fun x => some (He.ga K x)) (He.ma K (He.ga K "Standing") "__str__") 1 1 f_Standing___str__ := ok_Standing___str__ (fun_ofM F10) B C Z 
  have D_Standing_base : Dfi PP w K mg base (fun x => some (He.ga K x)) (prA K "Standing" "base") 1 1 f_Standing_base := ok_Standing_base Fp0 B C Z 
  have D__law_is : Dfn PP w K mg base (fun x => some (He.ga K x)) "_law_is" 26 3 f__law_is := ok__law_is (fun_of F11) g11 B C Z D_Standing___str__ D_Standing_base D__law_lesser D__law_same
  have D_Standing___call__ : Dfi PP w K mg base (fun x => some (He.ga K x)) (He.ma K (He.ga K "Standing") "__call__") 3 2 f_Standing___call__ := ok_Standing___call__ (fun_ofM F12) B C Z D_Standing_base D_is_number
  have D_Standing___init__ : Dfi PP w K mg base (fun x => some (He.ga K x)) (He.ma K (He.ga K "Standing") "__init__") 3 3 f_Standing___init__ ∧ DfiW PP w K mg base (fun x => some (He.ga K x)) (He.ma K (He.ga K "Standing") "__init__") 3 2 0 ["wrong", "right"] [1, 0] f_Standing___init__ := ok_Standing___init__ (fun_ofM F13) B C Z D_is_number
  have D_Standing___neg__ : Dfi PP w K mg base (fun x => some (He.ga K x)) (He.ma K (He.ga K "Standing") "__neg__") 5 1 f_Standing___neg__ := ok_Standing___neg__ (fun_ofM F14) B C Z D_Standing___init__
  have D__law_are_answers_right : Dfn PP w K mg base (fun x => some (He.ga K x)) "_law_are_answers_right" 6 4 f__law_are_answers_right := ok__law_are_answers_right (fun_of F15) g15 B C Z D_Standing___call__ D_Standing___neg__ D__law_size D__law_word
  have D_Standing___add__ : Dfi PP w K mg base (fun x => some (He.ga K x)) (He.ma K (He.ga K "Standing") "__add__") 5 2 f_Standing___add__ := ok_Standing___add__ (fun_ofM F16) B C Z D_Standing___init__ D_is_number
  have D_Standing___radd__ : Dfi PP w K mg base (fun x => some (He.ga K x)) (He.ma K (He.ga K "Standing") "__radd__") 5 2 f_Standing___radd__ := ok_Standing___radd__ (fun_ofM F17) B C Z D_Standing___init__ D_is_number
  have D_Standing_open_at : Dfi PP w K mg base (fun x => some (He.ga K x)) (He5.wf K (He.ga K "Standing") "staticmethod" "open_at") 5 1 f_Standing_open_at ∧ DfiS PP w K mg base (fun x => some (He.ga K x)) (He5.wf K (He.ga K "Standing") "staticmethod" "open_at") 5 1 0 ["n"] [0] f_Standing_open_at := ok_Standing_open_at Fp1 B C Z D_Standing___init__ D_is_number
  have D__law_are_sums_right : Dfn PP w K mg base (fun x => some (He.ga K x)) "_law_are_sums_right" 27 4 f__law_are_sums_right := ok__law_are_sums_right (fun_of F18) g18 B C Z D_Standing___add__ D_Standing___neg__ D_Standing___radd__ D_Standing_open_at D__law_is D__law_size
  have D_Standing___eq__ : Dfi PP w K mg base (fun x => some (He.ga K x)) (He.ma K (He.ga K "Standing") "__eq__") 1 2 f_Standing___eq__ := ok_Standing___eq__ (fun_ofM F19) B C Z 
  have D_Standing___le__ : Dfi PP w K mg base (fun x => some (He.ga K x)) (He.ma K (He.ga K "Standing") "__le__") 1 2 f_Standing___le__ := ok_Standing___le__ (fun_ofM F20) B C Z 
  have D__law_are_pairs_right : Dfn PP w K mg base (fun x => some (He.ga K x)) "_law_are_pairs_right" 26 4 f__law_are_pairs_right := ok__law_are_pairs_right (fun_of F21) g21 B C Z D_Standing___eq__ D_Standing___init__ D_Standing___le__ D__law_draw D__law_same D__law_size
  have D__law_are_refusals_right : Dfn PP w K mg base (fun x => some (He.ga K x)) "_law_are_refusals_right" 9 3 f__law_are_refusals_right := ok__law_are_refusals_right (fun_of F22) g22 B C Z D_Standing___add__ D_Standing___call__ D_Standing___init__ D_Standing___radd__ D_Standing_open_at D__law_odd
  exact okF_law (fun_of F23) g23 B C Z D_Standing___init__ D__law_are_answers_right D__law_are_pairs_right D__law_are_refusals_right D__law_are_sums_right D__law_draw D__law_feed D__law_is D__law_size
end RB.Law
end
/-! text PKinds -/
section
set_option Elab.async false
set_option linter.all false
set_option maxRecDepth 100000
set_option maxHeartbeats 4000000
namespace RB
open PySem PySem.Spec PyProof.Rows L2
end RB
namespace RB.Law
open PySem PySem.Spec PyProof.Rows L2 RB
end RB.Law
end
section
set_option Elab.async false
set_option linter.all false
set_option maxRecDepth 100000
set_option maxHeartbeats 4000000
open PySem PySem.Spec PyProof.Rows L2 RB
local macro_rules
  | `(tactic| simp!) => `(tactic| simp -implicitDefEqProofs only [Res.bind_ok, Res.bind_exn, bind_ite, out_ok, out_exn, out_ite, thn_next, thn_ret, thn_exn, thn_brk, thn_cnt, thn_ite, run_ret, run_next, run_exn, run_ite, retR_v, retR_loc, retR_own, retL_s, ev_skip, ev_seq, ev_ret, ev_drop, ev_set, ev_ifS, nxO_s, asgR_s, ev_asg, parR_s, ev_par, par3R_s, ev_par3, ev_unp, setAll_c, setAll_n, ev_for, ev_forL, tg_name, tg_tup, tg_cons, tg_nil, gv_s, ev_getV, ev_cst, ev_bin, bR_b, ev_asB, ev_notM, ev_andM, ev_orM, ev_andV, ev_orV, ev_notV, ev_ifM, ev_chn, ev_nilA, ev_consA, ev_catA, ev_dflA, starR_l, starR_t, ev_starA, ev_callM, toD_v, toD_own, frzL_l, frzL_f, toDs_n, toDs_c, toA_v, toA_loc, toA_scr, toA_frd, toA_fdt, toA_own, frzA_l, frzA_f, frzA_d, frzA_d2, frzA_t, frzA_t2, toAs_n, toAs_c, lk_v, look_own, look_loc, look_scr, lst_v, lst_own, lst_loc, fcR_ok, fcR_exn, fcR_ite, cfR_s, ev_callF, tupR_s, ev_tupM, lstR_s, ev_lstM, ownR_s, ev_ownM, ev_lcM, ev_lcL, wipe_n, wipe_c, ev_yes, newL_f, newL_t, items_v, items_own, items_scr, itR_l, itR_t, ev_seqM, ev_rng1, zipR_l, zipR_t, ev_zipM, enR_s, ev_enumTM, lvR_s, ev_liveM, lvE_s, ev_liveE, ev_liveXM, kLvX_t, kLvX_l, kLvX_o, kLvX_v, ev_liveX, lvX_t, lvX_l, lvX_o, ixR_s, ev_ix, oix_t, oix_l, prtR_s, ev_partN, ev_partS, ev_cutM, ev_cutR, cutO_l, cutO_t, ev_methM, isL_own, app_v, appO_s, ext_v, extO_s, ev_dgetT, dgtO_s, ev_dinT, dinO_s, dit_f, dit_own, obDit_s, obDit_f, tkey_2, ev_dputT, dptR_o, dptO_s, dpt1_s, ev_dnewT, ev_dnewM, ev_len, lenO_l, lenO_t, ev_tuple, tplO_l, tplO_t, ev_list, lsO_l, lsO_t, lsO_lo, lsO_to, ev_int, ev_all, ev_any, ev_sorted, ev_neg, negR_s, ev_rev, revR_t, isN_n, isN_s, isN_t, ev_isi, isiO_s, ty_v, ev_raise, rsR_s, ev_in, ev_eq, ev_ne, eqO_str, eqO_int, eqO_nil, eqO_nilT, o_add_int, o_sub_int, o_lt_int, o_gt_int, o_le_int, o_ge_int, o_lt_str, o_ge_str, ob_l, ob_f, atI_0, atI_1, atI_2, atI_3, atI_4, List.set_cons_zero, List.set_cons_succ, List.getElem?_cons_zero, List.getElem?_cons_succ, List.length_cons, List.length_nil, List.nil_append, List.cons_append, List.map_cons, List.map_nil, Option.bind_some, Option.map_some, Option.isSome_some, Bool.not_true, Bool.not_false, Bool.not_not, reduceIte, Bool.false_eq_true, Bool.true_bne, Bool.false_bne, bne_self_eq_false, decide_eq_true_eq, decide_true, decide_false, kDrop_a, kSet_a, kIf_a, kAsg_a, kUnp_a, kFor_a, kForL_a, kBin_a, kNot_a, kAnd_a, kOr_a, kAndB_a, kAndV_a, kOrB_a, kOrV_a, kNotB_a, kNotV_a, kIfM_a, kCh4_a, kCh3_a, kCh2_a, kCh1_a, kCons2_a, kCons_a, kCat2_a, kCat_a, kStar_a, cD_s, dD_s, cA_s, dA_s, kTup_a, kLst_a, kOwn_a, kLc_a, kLcL_a, kZip_a, kLv_a, kCut2_a, kCut_a, kMeth_a, kDp3_a, kDp2_a, kDp1_a, kRev_a, kIsi_a, kRs_a, ev_dgetX, dgxO_s, dic_own, dic_f, obDic_s, obDic_f, key_str, key_int, goR_s, kGo3_a, kGo2_a, kGo1_a, ev_dgetOr, dpo1_s, dpoR_s, kPo3_a, kPo2_a, kPo1_a, ev_dputO, kDct_a, ev_dctL, Nat.reduceAdd, Nat.reduceLeDiff, Nat.zero_le, Nat.reduceEqDiff, Int.reduceLT, Int.reduceLE, Int.reduceEq, Nat.zero_lt_succ, ev_dgetR, dgrO_s, dsO_s, dsR_s, kDs3_a, kDs2_a, kDs1_a, ev_dputS, o_add_tup, o_add_lst, kSsu_a, ev_ssu, ssuR_l, ssuO_s, lpR_s, kLp3_a, kLp2_a, kLp1_a, ev_lputO, pcD_a, pcR_s, kPc2_a, kPc1_a, ev_pcons, ev_pnil, kDisp_a, ev_disp])
  | `(tactic| simp! only [$ls,*]) => `(tactic| simp -implicitDefEqProofs only [Res.bind_ok, Res.bind_exn, bind_ite, out_ok, out_exn, out_ite, thn_next, thn_ret, thn_exn, thn_brk, thn_cnt, thn_ite, run_ret, run_next, run_exn, run_ite, retR_v, retR_loc, retR_own, retL_s, ev_skip, ev_seq, ev_ret, ev_drop, ev_set, ev_ifS, nxO_s, asgR_s, ev_asg, parR_s, ev_par, par3R_s, ev_par3, ev_unp, setAll_c, setAll_n, ev_for, ev_forL, tg_name, tg_tup, tg_cons, tg_nil, gv_s, ev_getV, ev_cst, ev_bin, bR_b, ev_asB, ev_notM, ev_andM, ev_orM, ev_andV, ev_orV, ev_notV, ev_ifM, ev_chn, ev_nilA, ev_consA, ev_catA, ev_dflA, starR_l, starR_t, ev_starA, ev_callM, toD_v, toD_own, frzL_l, frzL_f, toDs_n, toDs_c, toA_v, toA_loc, toA_scr, toA_frd, toA_fdt, toA_own, frzA_l, frzA_f, frzA_d, frzA_d2, frzA_t, frzA_t2, toAs_n, toAs_c, lk_v, look_own, look_loc, look_scr, lst_v, lst_own, lst_loc, fcR_ok, fcR_exn, fcR_ite, cfR_s, ev_callF, tupR_s, ev_tupM, lstR_s, ev_lstM, ownR_s, ev_ownM, ev_lcM, ev_lcL, wipe_n, wipe_c, ev_yes, newL_f, newL_t, items_v, items_own, items_scr, itR_l, itR_t, ev_seqM, ev_rng1, zipR_l, zipR_t, ev_zipM, enR_s, ev_enumTM, lvR_s, ev_liveM, lvE_s, ev_liveE, ev_liveXM, kLvX_t, kLvX_l, kLvX_o, kLvX_v, ev_liveX, lvX_t, lvX_l, lvX_o, ixR_s, ev_ix, oix_t, oix_l, prtR_s, ev_partN, ev_partS, ev_cutM, ev_cutR, cutO_l, cutO_t, ev_methM, isL_own, app_v, appO_s, ext_v, extO_s, ev_dgetT, dgtO_s, ev_dinT, dinO_s, dit_f, dit_own, obDit_s, obDit_f, tkey_2, ev_dputT, dptR_o, dptO_s, dpt1_s, ev_dnewT, ev_dnewM, ev_len, lenO_l, lenO_t, ev_tuple, tplO_l, tplO_t, ev_list, lsO_l, lsO_t, lsO_lo, lsO_to, ev_int, ev_all, ev_any, ev_sorted, ev_neg, negR_s, ev_rev, revR_t, isN_n, isN_s, isN_t, ev_isi, isiO_s, ty_v, ev_raise, rsR_s, ev_in, ev_eq, ev_ne, eqO_str, eqO_int, eqO_nil, eqO_nilT, o_add_int, o_sub_int, o_lt_int, o_gt_int, o_le_int, o_ge_int, o_lt_str, o_ge_str, ob_l, ob_f, atI_0, atI_1, atI_2, atI_3, atI_4, List.set_cons_zero, List.set_cons_succ, List.getElem?_cons_zero, List.getElem?_cons_succ, List.length_cons, List.length_nil, List.nil_append, List.cons_append, List.map_cons, List.map_nil, Option.bind_some, Option.map_some, Option.isSome_some, Bool.not_true, Bool.not_false, Bool.not_not, reduceIte, Bool.false_eq_true, Bool.true_bne, Bool.false_bne, bne_self_eq_false, decide_eq_true_eq, decide_true, decide_false, kDrop_a, kSet_a, kIf_a, kAsg_a, kUnp_a, kFor_a, kForL_a, kBin_a, kNot_a, kAnd_a, kOr_a, kAndB_a, kAndV_a, kOrB_a, kOrV_a, kNotB_a, kNotV_a, kIfM_a, kCh4_a, kCh3_a, kCh2_a, kCh1_a, kCons2_a, kCons_a, kCat2_a, kCat_a, kStar_a, cD_s, dD_s, cA_s, dA_s, kTup_a, kLst_a, kOwn_a, kLc_a, kLcL_a, kZip_a, kLv_a, kCut2_a, kCut_a, kMeth_a, kDp3_a, kDp2_a, kDp1_a, kRev_a, kIsi_a, kRs_a, ev_dgetX, dgxO_s, dic_own, dic_f, obDic_s, obDic_f, key_str, key_int, goR_s, kGo3_a, kGo2_a, kGo1_a, ev_dgetOr, dpo1_s, dpoR_s, kPo3_a, kPo2_a, kPo1_a, ev_dputO, kDct_a, ev_dctL, Nat.reduceAdd, Nat.reduceLeDiff, Nat.zero_le, Nat.reduceEqDiff, Int.reduceLT, Int.reduceLE, Int.reduceEq, Nat.zero_lt_succ, ev_dgetR, dgrO_s, dsO_s, dsR_s, kDs3_a, kDs2_a, kDs1_a, ev_dputS, o_add_tup, o_add_lst, kSsu_a, ev_ssu, ssuR_l, ssuO_s, lpR_s, kLp3_a, kLp2_a, kLp1_a, ev_lputO, pcD_a, pcR_s, kPc2_a, kPc1_a, ev_pcons, ev_pnil, kDisp_a, ev_disp, $ls,*])
  | `(tactic| simp! only [$ls,*] $loc:location) => `(tactic| simp -implicitDefEqProofs only [Res.bind_ok, Res.bind_exn, bind_ite, out_ok, out_exn, out_ite, thn_next, thn_ret, thn_exn, thn_brk, thn_cnt, thn_ite, run_ret, run_next, run_exn, run_ite, retR_v, retR_loc, retR_own, retL_s, ev_skip, ev_seq, ev_ret, ev_drop, ev_set, ev_ifS, nxO_s, asgR_s, ev_asg, parR_s, ev_par, par3R_s, ev_par3, ev_unp, setAll_c, setAll_n, ev_for, ev_forL, tg_name, tg_tup, tg_cons, tg_nil, gv_s, ev_getV, ev_cst, ev_bin, bR_b, ev_asB, ev_notM, ev_andM, ev_orM, ev_andV, ev_orV, ev_notV, ev_ifM, ev_chn, ev_nilA, ev_consA, ev_catA, ev_dflA, starR_l, starR_t, ev_starA, ev_callM, toD_v, toD_own, frzL_l, frzL_f, toDs_n, toDs_c, toA_v, toA_loc, toA_scr, toA_frd, toA_fdt, toA_own, frzA_l, frzA_f, frzA_d, frzA_d2, frzA_t, frzA_t2, toAs_n, toAs_c, lk_v, look_own, look_loc, look_scr, lst_v, lst_own, lst_loc, fcR_ok, fcR_exn, fcR_ite, cfR_s, ev_callF, tupR_s, ev_tupM, lstR_s, ev_lstM, ownR_s, ev_ownM, ev_lcM, ev_lcL, wipe_n, wipe_c, ev_yes, newL_f, newL_t, items_v, items_own, items_scr, itR_l, itR_t, ev_seqM, ev_rng1, zipR_l, zipR_t, ev_zipM, enR_s, ev_enumTM, lvR_s, ev_liveM, lvE_s, ev_liveE, ev_liveXM, kLvX_t, kLvX_l, kLvX_o, kLvX_v, ev_liveX, lvX_t, lvX_l, lvX_o, ixR_s, ev_ix, oix_t, oix_l, prtR_s, ev_partN, ev_partS, ev_cutM, ev_cutR, cutO_l, cutO_t, ev_methM, isL_own, app_v, appO_s, ext_v, extO_s, ev_dgetT, dgtO_s, ev_dinT, dinO_s, dit_f, dit_own, obDit_s, obDit_f, tkey_2, ev_dputT, dptR_o, dptO_s, dpt1_s, ev_dnewT, ev_dnewM, ev_len, lenO_l, lenO_t, ev_tuple, tplO_l, tplO_t, ev_list, lsO_l, lsO_t, lsO_lo, lsO_to, ev_int, ev_all, ev_any, ev_sorted, ev_neg, negR_s, ev_rev, revR_t, isN_n, isN_s, isN_t, ev_isi, isiO_s, ty_v, ev_raise, rsR_s, ev_in, ev_eq, ev_ne, eqO_str, eqO_int, eqO_nil, eqO_nilT, o_add_int, o_sub_int, o_lt_int, o_gt_int, o_le_int, o_ge_int, o_lt_str, o_ge_str, ob_l, ob_f, atI_0, atI_1, atI_2, atI_3, atI_4, List.set_cons_zero, List.set_cons_succ, List.getElem?_cons_zero, List.getElem?_cons_succ, List.length_cons, List.length_nil, List.nil_append, List.cons_append, List.map_cons, List.map_nil, Option.bind_some, Option.map_some, Option.isSome_some, Bool.not_true, Bool.not_false, Bool.not_not, reduceIte, Bool.false_eq_true, Bool.true_bne, Bool.false_bne, bne_self_eq_false, decide_eq_true_eq, decide_true, decide_false, kDrop_a, kSet_a, kIf_a, kAsg_a, kUnp_a, kFor_a, kForL_a, kBin_a, kNot_a, kAnd_a, kOr_a, kAndB_a, kAndV_a, kOrB_a, kOrV_a, kNotB_a, kNotV_a, kIfM_a, kCh4_a, kCh3_a, kCh2_a, kCh1_a, kCons2_a, kCons_a, kCat2_a, kCat_a, kStar_a, cD_s, dD_s, cA_s, dA_s, kTup_a, kLst_a, kOwn_a, kLc_a, kLcL_a, kZip_a, kLv_a, kCut2_a, kCut_a, kMeth_a, kDp3_a, kDp2_a, kDp1_a, kRev_a, kIsi_a, kRs_a, ev_dgetX, dgxO_s, dic_own, dic_f, obDic_s, obDic_f, key_str, key_int, goR_s, kGo3_a, kGo2_a, kGo1_a, ev_dgetOr, dpo1_s, dpoR_s, kPo3_a, kPo2_a, kPo1_a, ev_dputO, kDct_a, ev_dctL, Nat.reduceAdd, Nat.reduceLeDiff, Nat.zero_le, Nat.reduceEqDiff, Int.reduceLT, Int.reduceLE, Int.reduceEq, Nat.zero_lt_succ, ev_dgetR, dgrO_s, dsO_s, dsR_s, kDs3_a, kDs2_a, kDs1_a, ev_dputS, o_add_tup, o_add_lst, kSsu_a, ev_ssu, ssuR_l, ssuO_s, lpR_s, kLp3_a, kLp2_a, kLp1_a, ev_lputO, pcD_a, pcR_s, kPc2_a, kPc1_a, ev_pcons, ev_pnil, kDisp_a, ev_disp, $ls,*] $loc:location)
/-! text EDraw -/
section
set_option Elab.async false
set_option linter.all false
set_option maxRecDepth 100000
set_option maxHeartbeats 4000000
namespace RB.Law
open PySem PySem.Spec PyProof.Rows L2 RB
/-- the feed -/
def feedKV (cells : List Int) (k l c : Int) : List (Key × D) := [(.inr (Str.ofString "cells"), .list (cells.map .int)), (.inr (Str.ofString "at"), .int k), (.inr (Str.ofString "left"), .int l), (.inr (Str.ofString "count"), .int c)]
section
variable (cells : List Int) (k l c x : Int)
theorem fd_cells : findD (feedKV cells k l c) (.inr (Str.ofString "cells")) = some (.list (cells.map .int)) := by kernel_rfl
theorem fd_at : findD (feedKV cells k l c) (.inr (Str.ofString "at")) = some (.int k) := by kernel_rfl
theorem fd_left : findD (feedKV cells k l c) (.inr (Str.ofString "left")) = some (.int l) := by kernel_rfl
theorem fd_count : findD (feedKV cells k l c) (.inr (Str.ofString "count")) = some (.int c) := by kernel_rfl
theorem pd_at : putD (feedKV cells k l c) (.inr (Str.ofString "at")) (.int x) = feedKV cells x l c := by kernel_rfl
theorem pd_left : putD (feedKV cells k l c) (.inr (Str.ofString "left")) (.int x) = feedKV cells k x c := by kernel_rfl
theorem pd_count : putD (feedKV cells k l c) (.inr (Str.ofString "count")) (.int x) = feedKV cells k l x := by kernel_rfl
theorem len_feed : ((feedKV cells k l c).length < 16777216) = True := by simp [feedKV]
end
/-- a feed that was asked at most n times stands alone in the store -/
def Feed (n : Nat) (S : Sto) : Prop := ∃ (cells : List Int) (k l c : Int) (R : Sto), S = .dic (feedKV cells k l c) :: R ∧ 0 ≤ k ∧ 0 ≤ l ∧ 0 ≤ c ∧ c ≤ n
theorem Feed.mono {n m : Nat} {S : Sto} (h : Feed n S) (e : n ≤ m) : Feed m S := by
  obtain ⟨a, b, c, d, R, h1, h2, h3, h4, h5⟩ := h
  exact ⟨a, b, c, d, R, h1, h2, h3, h4, by omega⟩
theorem Feed.app {n : Nat} {S : Sto} (h : Feed n S) (S2 : Sto) : Feed n (S ++ S2) := by
  obtain ⟨a, b, c, d, R, rfl, h2, h3, h4, h5⟩ := h
  exact ⟨a, b, c, d, R ++ S2, rfl, h2, h3, h4, h5⟩
theorem mod_nat {z : Int} {m : Nat} (h : 0 < m) : ∃ d : Nat, d < m ∧ z % (m : Int) = (d : Int) := by
  have e1 := Int.emod_nonneg z (show (m : Int) ≠ 0 by omega)
  have e2 := Int.emod_lt_of_pos z (show (0 : Int) < (m : Int) by omega)
  exact ⟨(z % (m : Int)).toNat, by omega, by omega⟩
theorem feed_eq {ns : List Int} (h : ns.length ≤ 63) : ∃ S, f__law_feed [.scr ns] [] = .ok (.loc 0) S ∧ Feed 0 S := by
  refine ⟨[.dic (feedKV ns 0 0 0)], ?_, ns, 0, 0, 0, [], rfl, by omega, by omega, by omega, by omega⟩
  have e : cutL (ns.map PyData.int) none (some 63) = ns.map .int := cutL_all ⟨rfl, by
    show min 63 (ns.map PyData.int).length = _
    rw [List.length_map]; omega⟩
  show fnRun (m__law_feed [some (.scr ns)] [] []) = _
  simp! only [m__law_feed, e]
  rfl
end RB.Law
end
/-! text EDrawT -/
section
set_option Elab.async false
set_option linter.all false
set_option maxRecDepth 100000
set_option maxHeartbeats 4000000
namespace RB.Law
open PySem PySem.Spec PyProof.Rows L2 RB
theorem draw_eqT {n m : Nat} {S : Sto} (f : Feed n S) (hn : n < 1000000000) (h0 : 0 < m) (h1 : m < 1073741824) : ∃ (j : Nat) (S' : Sto), j < m ∧ Feed (n + 1) S' ∧ S'.tail = S.tail ∧ f__law_draw [.loc 0, .v (.int (m : Int))] S = .ok (.v (.int (j : Int))) S' := by
  obtain ⟨cells, k, l, c, R, rfl, hk, hl, hc, hcn⟩ := f
  show ∃ (j : Nat) (S' : Sto), j < m ∧ Feed (n + 1) S' ∧ S'.tail = R ∧ fnRun (m__law_draw [some (.loc 0), some (.v (.int (m : Int))), none, none, none, none] [] (.dic (feedKV cells k l c) :: R)) = .ok (.v (.int (j : Int))) S'
  have hm : (0 : Int) < (m : Int) := by omega
  have hm2 : (0 : Int) < (m : Int) ∧ (m : Int) < 1073741824 := by omega
  have fin : ∀ (z : Int) S', Feed (n + 1) S' → S'.tail = R → ∃ (j : Nat) (S'' : Sto), j < m ∧ Feed (n + 1) S'' ∧ S''.tail = R ∧ FRes.ok (.v (.int (z % (m : Int)))) S' = .ok (.v (.int (j : Int))) S'' := fun z S' hf ht => by
    obtain ⟨d, hd, e2⟩ := mod_nat (z := z) h0
    rw [e2]
    exact ⟨d, S', hd, hf, ht, rfl⟩
  simp! only [m__law_draw, fd_count, pd_count, len_feed, fd_left]
  by_cases hl0 : 0 < l
  · simp! only [hl0, fd_left, o_div_int _ _ _ _ hm2, pd_left, len_feed, o_mod_int _ _ _ _ hm]
    exact fin l _ ⟨cells, k, l / m, c + 1, R, rfl, hk, Int.ediv_nonneg hl (by omega), by omega, by omega⟩ rfl
  · simp! only [hl0, fd_at, pd_at, len_feed, fd_cells]
    have big : ∀ y : Int, 0 ≤ y → y < 10000000000 → y.natAbs < 2 ^ 40 := fun y h1 h2 => by omega
    have mm : ∀ (y p : Int), 0 < p → p < 10000000000 → 0 ≤ y % p ∧ y % p < 10000000000 := fun y p h1 h2 => by
      have e1 := Int.emod_nonneg y (show p ≠ 0 by omega)
      have e2 := Int.emod_lt_of_pos y h1
      omega
    have up : ∀ y : Int, y.natAbs < 2 ^ 40 → y.natAbs < 2 ^ 400 := fun y h => Nat.lt_of_lt_of_le h (Nat.pow_le_pow_right (by decide) (by decide))
    have tail : ∀ z : Int, ∃ (j : Nat) (S' : Sto), j < m ∧ Feed (n + 1) S' ∧ S'.tail = R ∧ fnRun ((Out.next [some (.loc 0), some (.v (.int (m : Int))), none, some (.v (.int k)), some (.v (.int z)), none] [] (Ob.dic (feedKV cells (k + 1) l (c + 1)) :: R)).thn (seqS (setS 5 (bin o_mod (callM c_int (consA (bin o_add (bin o_add (bin o_mod (callM c_int (consA (getV 4) nilA)) (cst (.int (1000030121)))) (bin o_mul (cst (.int (103599))) (bin dgetR (getV 0) (cst (.str (Str.ofString "count")))))) (cst (.int (186)))) nilA)) (cst (.int (2147483579)))))
    (seqS (setS 5 (bin o_mod (callM c_int (consA (bin o_add (bin o_add (bin o_mul (getV 5) (getV 5)) (bin o_mul (cst (.int (7700353))) (bin dgetR (getV 0) (cst (.str (Str.ofString "count")))))) (cst (.int (125)))) nilA)) (cst (.int (2147483549)))))
    (retS (bin o_mod (callM c_int (consA (bin o_div (bin o_mod (callM c_int (consA (bin o_add (bin o_mul (getV 5) (getV 5)) (bin o_mul (cst (.int (271))) (getV 5))) nilA)) (cst (.int (2147483543)))) (cst (.int (16)))) nilA)) (getV 1)))))) = .ok (.v (.int (j : Int))) S' := fun z => by
      have hc2 := up _ (show (c + 1).natAbs < 2 ^ 40 by omega)
      have k1 : ∀ j : Int, 0 ≤ j → j < 10000000000 → j.natAbs < 2 ^ 400 := fun j h1 h2 => up _ (big j h1 h2)
      have hy := mm (z % 1000030121 + 103599 * (c + 1) + 186) 2147483579 (by decide) (by decide)
      simp! only [fd_count, o_mod_int _ _ _ 1000030121 (by decide), o_mul_small _ _ 103599 (c + 1) (k1 _ (by decide) (by decide)) hc2, o_mod_int _ _ _ 2147483579 (by decide)]
      generalize (z % 1000030121 + 103599 * (c + 1) + 186) % 2147483579 = y at hy
      have hy2 := k1 y hy.1 hy.2
      have hw := mm (y * y + 7700353 * (c + 1) + 125) 2147483549 (by decide) (by decide)
      simp! only [fd_count, o_mul_small _ _ y y hy2 hy2, o_mul_small _ _ 7700353 (c + 1) (k1 _ (by decide) (by decide)) hc2, o_mod_int _ _ _ 2147483549 (by decide)]
      generalize (y * y + 7700353 * (c + 1) + 125) % 2147483549 = w at hw
      have hw2 := up w (big w hw.1 hw.2)
      simp! only [o_mul_small _ _ w w hw2 hw2, o_mul_small _ _ 271 w (k1 _ (by decide) (by decide)) hw2, o_mod_int _ _ _ 2147483543 (by decide), o_div_int _ _ _ 16 (by decide), o_mod_int _ _ _ _ hm]
      exact fin _ _ ⟨cells, k + 1, l, c + 1, R, rfl, by omega, hl, by omega, by omega⟩ rfl
    by_cases hcs : cells = []
    · subst hcs
      have e18 : ¬ ((10 : Int) ^ (18 : Int).toNat ≤ 96905) := by decide
      simp! only [List.map_nil, List.isEmpty_nil, o_pow_int _ _ 10 18 (by decide), e18]
      exact tail 96905
    · have hne : (cells.map PyData.int).isEmpty = false := by
        cases cells with
        | nil => exact (hcs rfl).elim
        | cons a r => rfl
      have hlen : (0 : Int) < ((cells.map PyData.int).length : Int) := by
        cases cells with
        | nil => exact (hcs rfl).elim
        | cons a r => rw [List.length_map, List.length_cons]; omega
      obtain ⟨x, hx, hm'⟩ := atI_lt (cells.map PyData.int) (Int.emod_nonneg k (show ((cells.map PyData.int).length : Int) ≠ 0 by omega)) (Int.emod_lt_of_pos k hlen)
      obtain ⟨z, _, rfl⟩ := List.mem_map.mp hm'
      simp! only [hne, o_mod_int _ _ _ _ hlen, hx, fd_cells, o_pow_int _ _ 10 18 (by decide)]
      by_cases hz : (10 : Int) ^ (18 : Int).toNat ≤ z
      · by_cases hk2 : k < ((cells.map PyData.int).length : Int)
        · have hz0 : 0 ≤ z := Int.le_trans (by decide) hz
          simp! only [hz, hk2, o_div_int _ _ _ _ hm2, pd_left, len_feed, o_mod_int _ _ _ _ hm, fd_cells]
          exact fin z _ ⟨cells, k + 1, z / m, c + 1, R, rfl, by omega, Int.ediv_nonneg hz0 (by omega), by omega, by omega⟩ rfl
        · simp! only [hz, hk2, fd_cells]
          exact tail z
      · simp! only [hz]
        exact tail z
/-- a store behind the feed -/
def At0 (k : Nat) (o : Ob) (S : Sto) : Prop := 0 < k ∧ S[k]? = some o
theorem At0.tail {k : Nat} {o : Ob} {S S' : Sto} (h : At0 k o S) (e : S'.tail = S.tail) : At0 k o S' := by
  obtain ⟨h1, h2⟩ := h
  refine ⟨h1, ?_⟩
  obtain ⟨j, rfl⟩ : ∃ j, k = j + 1 := ⟨k - 1, by omega⟩
  cases S with
  | nil => simp at h2
  | cons a S =>
    cases S' with
    | nil =>
      have e : [] = S := e
      subst e
      simp at h2
    | cons b S' =>
      have e : S' = S := e
      subst e
      simpa using h2
theorem At0.app {k : Nat} {o : Ob} {S : Sto} (h : At0 k o S) (S2 : Sto) : At0 k o (S ++ S2) := ⟨h.1, by rw [List.getElem?_append_left (List.getElem?_eq_some_iff.mp h.2).1]; exact h.2⟩
theorem Feed.pos {n : Nat} {S : Sto} (h : Feed n S) : 0 < S.length := by
  obtain ⟨_, _, _, _, R, rfl, _⟩ := h
  simp
theorem At0.new {n : Nat} {S : Sto} (h : Feed n S) (o : Ob) : At0 S.length o (S ++ [o]) := ⟨h.pos, List.getElem?_concat_length⟩
theorem any_lT {α : Type} {enc : α → D} {ys : List α} {n : Nat} {S : Sto} (h : ys ≠ []) (hl : ys.length < 1000000) (F : Feed n S) (hn : n < 1000000000) : ∃ y S', y ∈ ys ∧ Feed (n + 1) S' ∧ S'.tail = S.tail ∧ f__law_any [.loc 0, .v (.list (ys.map enc))] S = .ok (.v (enc y)) S' := by
  have hpos : 0 < ys.length := List.length_pos_iff.mpr h
  obtain ⟨j, S', hj, F', ht, e⟩ := draw_eqT (m := ys.length) F hn hpos (by omega)
  refine ⟨ys[j], S', List.getElem_mem hj, F', ht, ?_⟩
  have hget : (ys.map enc)[j]? = some (enc ys[j]) := by rw [List.getElem?_map, List.getElem?_eq_getElem hj]; rfl
  show fnRun (m__law_any [some (.loc 0), some (.v (.list (ys.map enc)))] [] S) = _
  unfold m__law_any
  generalize f__law_draw = fd at e
  simp! only [List.length_map, e, atI_nat, hget]
end RB.Law
end
/-! text REv12 -/
section
set_option Elab.async false
set_option linter.all false
set_option maxRecDepth 100000
set_option maxHeartbeats 4000000
/-! REv12: a walk that may raise at the first thing that is not as wanted. -/
namespace RB
open PySem PySem.Spec PyProof.Rows L2
theorem fn_run {n : Nat} {m : SM} {rs : List Rv} {S : Sto} {ρ : Vn} (h : rs.map some ++ List.replicate (n - rs.length) none = ρ) : fnM n m rs S = fnRun (m ρ [] S) := by rw [fnM_eq, h]
end RB
end
/-! text REv13 -/
section
set_option Elab.async false
set_option linter.all false
set_option maxRecDepth 100000
set_option maxHeartbeats 4000000
/-! REv13: a walk by an invariant over what was met, that may end early (a return or an exception). -/
namespace RB
open PySem PySem.Spec PyProof.Rows L2
end RB
end
/-! text REv14 -/
section
set_option Elab.async false
set_option linter.all false
set_option maxRecDepth 100000
set_option maxHeartbeats 4000000
/-! REv14: two lent lists; a list of the shared store that is appended to. -/
namespace RB
open PySem PySem.Spec PyProof.Rows L2
end RB
end
/-! text REv15 -/
section
set_option Elab.async false
set_option linter.all false
set_option maxRecDepth 100000
set_option maxHeartbeats 4000000
/-! REv15: equations: dicts of things, lists made in the shared store, own len, [], bool. -/
namespace RB
open PySem PySem.Spec PyProof.Rows L2
end RB
end
/-! text REv16 -/
section
set_option Elab.async false
set_option linter.all false
set_option maxRecDepth 100000
set_option maxHeartbeats 4000000
/-! REv16: equations: a def as a value, three instances made and unpacked, tuple(zip(..)), own operators. -/
namespace RB
open PySem PySem.Spec PyProof.Rows L2
end RB
end
/-! text REv17 -/
section
set_option Elab.async false
set_option linter.all false
set_option maxRecDepth 100000
set_option maxHeartbeats 4000000
/-! REv17: equations for texts: join, split, int(text), tuples of the module, o.f += n, lists of lists. -/
namespace RB
open PySem PySem.Spec PyProof.Rows L2
end RB
end
/-! text REv18 -/
section
set_option Elab.async false
set_option linter.all false
set_option maxRecDepth 100000
set_option maxHeartbeats 4000000
/-! REv18: walks that may end early with another store; equations: defs as values, own split, text * int, lists pulled, h(lambda: e). -/
namespace RB
open PySem PySem.Spec PyProof.Rows L2
end RB
end
/-! text REv19 -/
section
set_option Elab.async false
set_option linter.all false
set_option maxRecDepth 100000
set_option maxHeartbeats 4000000
namespace RB
open PySem PySem.Spec PyProof.Rows L2
/-! ### equations: cls(e, ..) in a class method, str(x), two classes heard -/
section
variable {ρ : Vn} {T S : Sto} {cls gave : Str} {k1 k2 : HdD}
def strF : Res Rv → Res Rv
  | .ok (.v (.str b)) T' S' => .ok (.v (.str b)) T' S'
  | _ => .bad
theorem strI_s (fm : FM) {r : Rv} (h : insNo cls none r S = true) : strI cls fm [r] T S = strF (argR fm r [] T S) := by
  unfold strI
  show (if insNo cls none r S = true then _ else _) = _
  rw [if_pos h]
  cases argR fm r [] T S with
  | ok r T' S' => cases r <;> first | rfl | (rename_i d; cases d <;> rfl)
  | exn z T' S' => rfl
  | bad => rfl
end
end RB
end
/-! text RTape -/
section
set_option Elab.async false
set_option linter.all false
set_option maxRecDepth 100000
set_option maxHeartbeats 4000000
/-! RTape: xs[i] = v on a list of the shared store. -/
namespace RB
open PySem PySem.Spec PyProof.Rows L2
end RB
end
/-! text RPopAt -/
section
set_option Elab.async false
set_option linter.all false
set_option maxRecDepth 100000
set_option maxHeartbeats 4000000
/-! RPopAt: xs.pop(i) of an own list, i a place from the front. -/
namespace RB
open PySem PySem.Spec PyProof.Rows L2
end RB
end
/-! text RDict -/
section
set_option Elab.async false
set_option linter.all false
set_option maxRecDepth 100000
set_option maxHeartbeats 4000000
/-! RDict: dict([(key, value), ..]): keys that are texts; keys that are flat tuples. -/
namespace RB
open PySem PySem.Spec PyProof.Rows L2
/-! ### texts -/
/-! ### tuples -/
end RB
namespace RB
end RB
end
/-! text RSortK -/
section
set_option Elab.async false
set_option linter.all false
set_option maxRecDepth 100000
set_option maxHeartbeats 4000000
/-! RSortK: sorted(d), d a dict whose keys are flat tuples, or texts. -/
namespace RB
open PySem PySem.Spec PyProof.Rows L2
/-! ### texts and numbers as keys -/
/-! ### as calls -/
end RB
end
/-! text RLenT -/
section
set_option Elab.async false
set_option linter.all false
set_option maxRecDepth 100000
set_option maxHeartbeats 4000000
/-! RLenT: len(d), d a dict whose keys are flat tuples. -/
namespace RB
open PySem PySem.Spec PyProof.Rows L2
end RB
end
/-! text RLendT -/
section
set_option Elab.async false
set_option linter.all false
set_option maxRecDepth 100000
set_option maxHeartbeats 4000000
/-! RLendT: a dict with tuple keys, lent while a call lasts. -/
namespace RB
open PySem PySem.Spec PyProof.Rows L2
end RB
end
/-! text RZipN -/
section
set_option Elab.async false
set_option linter.all false
set_option maxRecDepth 100000
set_option maxHeartbeats 4000000
/-! RZipN: zip of two tuples with a name as its target: every turn's pair may stay. -/
namespace RB
open PySem PySem.Spec PyProof.Rows L2
end RB
end
/-! text RGuard -/
section
set_option Elab.async false
set_option linter.all false
set_option maxRecDepth 100000
set_option maxHeartbeats 4000000
/-! RGuard: defs that are called where nothing is being shown (no guard stands): they may say repr(x), x a list or a tuple. -/
namespace RB
open PySem PySem.Spec PyProof.Rows L2
/-- as FnOk, for calls with no guard below -/
structure FnOkG (P : Program) (w : World) (K : PySem.W.Frag) (mg : Str → Option Value) (base : Heap) (CX : CXT) (k : Nat) (f : Addr) (fd : FuncData) (ps : List Str) (sp : Sp) : Prop where
  len : ∀ vs H Q E, sp vs H Q E → vs.length = ps.length
  run : ∀ (A : Around) (outer : List Env) (s : Shared) (H : Hp) (args : Args) (us : List Value) (vs : List V) (Q : VK) (E : XK), A.guards = some [] → Room k A → Env0 P w K mg base A outer s H → BindsTo s fd args (ps.zip us) → Vals vs us → sp vs H Q E →
    codeAny (model P w) A (.call (.ref f) args) (CR CX outer P w H s Q E) s
theorem FnOkG.mono {P : Program} {w : World} {K : PySem.W.Frag} {mg : Str → Option Value} {base : Heap} {CX : CXT} {j k : Nat} {f : Addr} {fd : FuncData} {ps : List Str} {sp : Sp} (F : FnOkG P w K mg base CX j f fd ps sp) (h : j ≤ k) : FnOkG P w K mg base CX k f fd ps sp :=
  ⟨F.len, fun A outer s H args us vs Q E hg hr => F.run A outer s H args us vs Q E hg (hr.mono h)⟩
/-! ### repr -/
end RB
end
/-! text REv20 -/
section
set_option Elab.async false
set_option linter.all false
set_option maxRecDepth 100000
set_option maxHeartbeats 4000000
/-! REv20: equations: tapes, dicts made of pairs, their keys in order, lending, zip by a name, repr. -/
namespace RB
open PySem PySem.Spec PyProof.Rows L2
end RB
end
/-! text A35a -/
section
set_option Elab.async false
set_option linter.all false
set_option maxRecDepth 100000
set_option maxHeartbeats 4000000
namespace RB.Law
open PySem PySem.Spec PyProof.Rows L2 RB
/-! ### a Standing as an object -/
def stI (r w : Int) : Ob := .ins (Str.ofString "Standing") [(Str.ofString "right", .v (.int r)), (Str.ofString "wrong", .v (.int w))]
def st0 : Ob := .ins (Str.ofString "Standing") []
theorem st_right (r w : Int) : [(Str.ofString "right", Rv.v (.int r)), (Str.ofString "wrong", Rv.v (.int w))].lookup (Str.ofString "right") = some (.v (.int r)) := by rfl
theorem st_wrong (r w : Int) : [(Str.ofString "right", Rv.v (.int r)), (Str.ofString "wrong", Rv.v (.int w))].lookup (Str.ofString "wrong") = some (.v (.int w)) := by rfl
theorem st_put1 (r : Int) : putFd (Str.ofString "right") (.v (.int r)) [] = [(Str.ofString "right", .v (.int r))] := rfl
theorem st_put2 (r w : Int) : putFd (Str.ofString "wrong") (.v (.int w)) [(Str.ofString "right", .v (.int r))] = [(Str.ofString "right", .v (.int r)), (Str.ofString "wrong", .v (.int w))] := by rfl
/-- what is no number -/
def oddL : List D := [.bool true, .bool false, .none, .int (-1), .int (-7), .str (Str.ofString "1"), .str (Str.ofString ""), .tuple [], .tuple [.int 1], .list [.int 1], .list [], .str (Str.ofString "a")]
def exU (w : Str) : Exn := ⟨Str.ofString "NotUsable", [(Str.ofString "at", .int (-1)), (Str.ofString "word", .str w)]⟩
section
variable {S : Sto}
theorem num_yes {n : Int} (h : 0 ≤ n) (S : Sto) : f_is_number [.v (.int n)] S = .ok (.v (.bool true)) S := by
  have h1 : f_is_integer [.v (.int n)] S = .ok (.v (.bool true)) S := by
    show fnRun (m_is_integer [some (.v (.int n))] [] S) = _
    unfold m_is_integer
    simp! only [ev_frz, kFrz_a, frzR_s, ev_prd, kPr1_a, kPr2_a, prdR1_s, prdR2_s, ev_asgP, kAsP_a, ev_dkeys, kDk_a, dic_k, dic_loc, toA_frk, retR_frd, retR_prd, ev_dputX, kPx1_a, kPx2_a, kPx3_a, dpxR_o, dpxR_l, dpx1_s, dpx2_s, ev_rep, ev_revL, kRvL_a, rvLR_l, ev_min, minO_l, ev_sum, sumO_l, ev_sortL, kSrL_a, srLR_l, ev_permA, kPm_a, pick_021, pick_01, ty_int, ty_bool, ty_tup, ty_str, isiO_s, keys_dK]
    rfl
  show fnRun (m_is_number [some (.v (.int n))] [] S) = _
  unfold m_is_number
  simp! only [h1, decide_eq_true h]
theorem num_no {d : D} (h : d ∈ oddL) (S : Sto) : f_is_number [.v d] S = .ok (.v (.bool false)) S := by
  simp only [oddL, List.mem_cons, List.not_mem_nil, or_false] at h
  rcases h with rfl | rfl | rfl | rfl | rfl | rfl | rfl | rfl | rfl | rfl | rfl | rfl <;> rfl
theorem st_init {r w : Int} (hr : 0 ≤ r) (hw : 0 ≤ w) (S : Sto) : f_Standing___init__ [.loc S.length, .v (.int r), .v (.int w)] (S ++ [.ins (Str.ofString "Standing") []]) = .ok (.v .none) (S ++ [stI r w]) := by
  have h1 := num_yes hr
  have h2 := num_yes hw
  have e1 := insAt_of (at_snoc S (.ins (Str.ofString "Standing") []))
  have e2 := insAt_of (at_snoc S (.ins (Str.ofString "Standing") [(Str.ofString "right", Rv.v (.int r))]))
  show fnRun (m_Standing___init__ [some (.loc S.length), some (.v (.int r)), some (.v (.int w))] [] (S ++ [.ins (Str.ofString "Standing") []])) = _
  unfold m_Standing___init__
  generalize f_is_number = fn at h1 h2
  simp! only [h1, h2, ev_fldS, kFs1_a, kFs2_a, fldV_v, e1, fsR_s, set_snoc, st_put1, e2, st_put2]
  rfl
theorem st_make {r w : Int} (hr : 0 ≤ r) (hw : 0 ≤ w) (T S : Sto) : makeR (Str.ofString "Standing") f_Standing___init__ [.v (.int r), .v (.int w)] T S = .ok (.loc S.length) T (S ++ [stI r w]) := by
  have a3 := st_init hr hw S
  generalize f_Standing___init__ = fi at a3
  simp! only [ev_makeR, mkR_s, a3, mkF_ok]
/-- refusals -/
theorem st_init1 {d x : D} (h : d ∈ oddL) (k : Nat) (S : Sto) : f_Standing___init__ [.loc k, .v d, .v x] S = .exn (exU (Str.ofString "right")) S := by
  have h1 := num_no h
  show fnRun (m_Standing___init__ [some (.loc k), some (.v d), some (.v x)] [] S) = _
  unfold m_Standing___init__
  generalize f_is_number = fn at h1
  simp! only [h1]
  rfl
theorem st_init2 {r : Int} (hr : 0 ≤ r) {d : D} (h : d ∈ oddL) (k : Nat) (S : Sto) : f_Standing___init__ [.loc k, .v (.int r), .v d] S = .exn (exU (Str.ofString "wrong")) S := by
  have h0 := num_yes hr
  have h1 := num_no h
  show fnRun (m_Standing___init__ [some (.loc k), some (.v (.int r)), some (.v d)] [] S) = _
  unfold m_Standing___init__
  generalize f_is_number = fn at h0 h1
  simp! only [h0, h1]
  rfl
theorem st_base {n : Nat} {r w : Int} (h : S[n]? = some (stI r w)) : f_Standing_base [.loc n] S = .ok (.v (.int (if r < w then r else w))) S := by
  have e1 := insAt_of h
  show fnRun (m_Standing_base [some (.loc n)] [] S) = _
  unfold m_Standing_base
  simp! only [ev_fld, fldO_a, e1, fdI_s, st_right, st_wrong, fdO_s]
  by_cases q : r < w
  · simp! only [q, ev_fld, fldO_a, e1, fdI_s, st_right, st_wrong, fdO_s]
  · simp! only [q, ev_fld, fldO_a, e1, fdI_s, st_right, st_wrong, fdO_s]
/-- the word at a budget -/
def wordI (r w n : Int) : Str := if n < (if r < w then r else w) then Str.ofString "none" else if n < w then Str.ofString "right" else if n < r then Str.ofString "wrong" else Str.ofString "open"
theorem st_call {k : Nat} {r w n : Int} (hn : 0 ≤ n) (h : S[k]? = some (stI r w)) : f_Standing___call__ [.loc k, .v (.int n)] S = .ok (.v (.str (wordI r w n))) S := by
  have e1 := insAt_of h
  have h1 := num_yes hn S
  have h2 := st_base h
  have h3 : insNo (Str.ofString "Standing") none (.loc k) S = true := insNo_of h rfl
  show fnRun (m_Standing___call__ [some (.loc k), some (.v (.int n))] [] S) = _
  unfold m_Standing___call__ wordI
  generalize f_is_number = fn at h1
  generalize f_Standing_base = fb at h2
  simp! only [h1, ev_prop, kPrp_a, h3, ev_argR, agR_s, h2, resOf_ok, noX_ok, ev_fld, fldO_a, e1, fdI_s, st_right, st_wrong, fdO_s]
  by_cases q1 : n < (if r < w then r else w)
  · simp! only [q1]
  · by_cases q2 : n < w
    · simp! only [q1, q2, ev_fld, fldO_a, e1, fdI_s, st_wrong, fdO_s]
    · by_cases q3 : n < r
      · simp! only [q1, q2, q3, ev_fld, fldO_a, e1, fdI_s, st_right, st_wrong, fdO_s]
      · simp! only [q1, q2, q3, ev_fld, fldO_a, e1, fdI_s, st_right, st_wrong, fdO_s]
theorem st_call_no {k : Nat} {d : D} (hd : d ∈ oddL) (S : Sto) : f_Standing___call__ [.loc k, .v d] S = .exn (exU (Str.ofString "budget")) S := by
  have h1 := num_no hd S
  show fnRun (m_Standing___call__ [some (.loc k), some (.v d)] [] S) = _
  unfold m_Standing___call__
  generalize f_is_number = fn at h1
  simp! only [h1]
  rfl
theorem st_neg {k : Nat} {r w : Int} (hr : 0 ≤ r) (hw : 0 ≤ w) (h : S[k]? = some (stI r w)) : f_Standing___neg__ [.loc k] S = .ok (.loc S.length) (S ++ [stI w r]) := by
  have e1 := insAt_of h
  have a := st_make hw hr [] S
  show fnRun (m_Standing___neg__ [some (.loc k)] [] S) = _
  unfold m_Standing___neg__
  generalize f_Standing___init__ = fi at a
  simp! only [ev_fld, fldO_a, e1, fdI_s, st_right, st_wrong, fdO_s, a]
theorem st_add {k : Nat} {r w n : Int} (hr : 0 ≤ r) (hw : 0 ≤ w) (hn : 0 ≤ n) (h : S[k]? = some (stI r w)) : f_Standing___add__ [.loc k, .v (.int n)] S = .ok (.loc S.length) (S ++ [stI (r + n) (w + n)]) := by
  have e1 := insAt_of h
  have h1 := num_yes hn S
  have a := st_make (show 0 ≤ r + n by omega) (show 0 ≤ w + n by omega) [] S
  show fnRun (m_Standing___add__ [some (.loc k), some (.v (.int n))] [] S) = _
  unfold m_Standing___add__
  generalize f_is_number = fn at h1
  generalize f_Standing___init__ = fi at a
  simp! only [h1, ev_fld, fldO_a, e1, fdI_s, st_right, st_wrong, fdO_s, a]
theorem st_radd {k : Nat} {r w n : Int} (hr : 0 ≤ r) (hw : 0 ≤ w) (hn : 0 ≤ n) (h : S[k]? = some (stI r w)) : f_Standing___radd__ [.loc k, .v (.int n)] S = .ok (.loc S.length) (S ++ [stI (r + n) (w + n)]) := by
  have e1 := insAt_of h
  have h1 := num_yes hn S
  have a := st_make (show 0 ≤ r + n by omega) (show 0 ≤ w + n by omega) [] S
  show fnRun (m_Standing___radd__ [some (.loc k), some (.v (.int n))] [] S) = _
  unfold m_Standing___radd__
  generalize f_is_number = fn at h1
  generalize f_Standing___init__ = fi at a
  simp! only [h1, ev_fld, fldO_a, e1, fdI_s, st_right, st_wrong, fdO_s, a]
theorem st_add_no {k : Nat} {d : D} (hd : d ∈ oddL) (S : Sto) : f_Standing___add__ [.loc k, .v d] S = .exn (exU (Str.ofString "other")) S := by
  have h1 := num_no hd S
  show fnRun (m_Standing___add__ [some (.loc k), some (.v d)] [] S) = _
  unfold m_Standing___add__
  generalize f_is_number = fn at h1
  simp! only [h1]
  rfl
theorem st_radd_no {k : Nat} {d : D} (hd : d ∈ oddL) (S : Sto) : f_Standing___radd__ [.loc k, .v d] S = .exn (exU (Str.ofString "other")) S := by
  have h1 := num_no hd S
  show fnRun (m_Standing___radd__ [some (.loc k), some (.v d)] [] S) = _
  unfold m_Standing___radd__
  generalize f_is_number = fn at h1
  simp! only [h1]
  rfl
theorem st_open {n : Int} (hn : 0 ≤ n) (S : Sto) : f_Standing_open_at [.v (.int n)] S = .ok (.loc S.length) (S ++ [stI n n]) := by
  have h1 := num_yes hn S
  have a := st_make hn hn [] S
  show fnRun (m_Standing_open_at [some (.v (.int n))] [] S) = _
  unfold m_Standing_open_at
  generalize f_is_number = fn at h1
  generalize f_Standing___init__ = fi at a
  simp! only [h1, a]
theorem st_open_no {d : D} (hd : d ∈ oddL) (S : Sto) : f_Standing_open_at [.v d] S = .exn (exU (Str.ofString "n")) S := by
  have h1 := num_no hd S
  show fnRun (m_Standing_open_at [some (.v d)] [] S) = _
  unfold m_Standing_open_at
  generalize f_is_number = fn at h1
  simp! only [h1]
  rfl
theorem isi_of {k : Nat} {r w : Int} (h : S[k]? = some (stI r w)) (T : Sto) : isiR (Str.ofString "Standing") (.loc k) T S = .ok (.v (.bool true)) T S := by
  unfold isiR
  rw [insNo_of h rfl]
  rfl
theorem isi_d (d : D) (T S : Sto) : isiR (Str.ofString "Standing") (.v d) T S = .ok (.v (.bool false)) T S := rfl
theorem st_eq {k j : Nat} {r w r2 w2 : Int} (h1 : S[k]? = some (stI r w)) (h2 : S[j]? = some (stI r2 w2)) : f_Standing___eq__ [.loc k, .loc j] S = .ok (.v (.bool (decide (r = r2) && decide (w = w2)))) S := by
  have e1 := insAt_of h1
  have e2 := insAt_of h2
  have e3 := isi_of h2 []
  show fnRun (m_Standing___eq__ [some (.loc k), some (.loc j)] [] S) = _
  unfold m_Standing___eq__ isiC
  simp! only [e3, ev_fld, fldO_a, e1, e2, fdI_s, st_right, st_wrong, fdO_s]
  by_cases q : r = r2
  · simp! only [q, ev_fld, fldO_a, e1, e2, fdI_s, st_right, st_wrong, fdO_s, decide_true, Bool.true_and]
  · simp! only [q, decide_false, Bool.false_and]
theorem st_eq_d {k : Nat} (d : D) (S : Sto) : f_Standing___eq__ [.loc k, .v d] S = .ok (.v (.bool false)) S := by
  show fnRun (m_Standing___eq__ [some (.loc k), some (.v d)] [] S) = _
  unfold m_Standing___eq__ isiC
  simp! only [isi_d]
theorem st_le {k j : Nat} {r w r2 w2 : Int} (h1 : S[k]? = some (stI r w)) (h2 : S[j]? = some (stI r2 w2)) : f_Standing___le__ [.loc k, .loc j] S = .ok (.v (.bool (decide (r ≤ r2) && decide (w ≤ w2)))) S := by
  have e1 := insAt_of h1
  have e2 := insAt_of h2
  have e3 := isi_of h2 []
  show fnRun (m_Standing___le__ [some (.loc k), some (.loc j)] [] S) = _
  unfold m_Standing___le__ isiC
  simp! only [e3, ev_fld, fldO_a, e1, e2, fdI_s, st_right, st_wrong, fdO_s]
  by_cases q : r ≤ r2
  · simp! only [q, ev_fld, fldO_a, e1, e2, fdI_s, st_right, st_wrong, fdO_s, decide_true, Bool.true_and]
  · simp! only [q, decide_false, Bool.false_and]
end
end RB.Law
end
/-! text A35b -/
section
set_option Elab.async false
set_option linter.all false
set_option maxRecDepth 100000
set_option maxHeartbeats 4000000
namespace RB.Law
open PySem PySem.Spec PyProof.Rows L2 RB
/-! ### texts of numbers -/
def numS (w : Int) : Str := Str.ofString (toString w)
/-- the numbers that are met -/
def Nm (z : Int) : Prop := 0 ≤ z ∧ z < 10 ^ 60
theorem log_60 {w : Int} (h : Nm w) : w.natAbs.log2 < 1920 := by
  have h3 : w.natAbs < 2 ^ 200 := by
    have : (10 : Nat) ^ 60 < 2 ^ 200 := by decide +kernel
    have := h.1
    have := h.2
    omega
  by_cases h0 : w.natAbs = 0
  · rw [h0]; decide
  · exact Nat.lt_of_lt_of_le ((Nat.log2_lt h0).mpr h3) (by decide)
theorem tl_num (m : Nat) : TL.tl (numS (m : Int)) = (Nat.toDigits 10 m).map Char.toNat := PySem.W.KIN.signs_num m
theorem num_len {w : Int} (h : Nm w) : (numS w).length ≤ 60 := by
  obtain ⟨h1, h2⟩ := h
  obtain ⟨m, rfl⟩ := Int.eq_ofNat_of_zero_le h1
  show (TL.tl (numS (m : Int))).length ≤ 60
  rw [tl_num, List.length_map]
  have e := (Nat.length_repr_le_iff (n := m) (by decide : 0 < 60)).mpr (by omega)
  rwa [← String.length_toList, Nat.toList_repr] at e
theorem sizeLine_eqA : sizeLine = 16777216 := rfl
section
variable {ρ : Vn} {T S : Sto}
def AllS (ρ : Vn) (T S : Sto) : List (EM Rv) → List Str → Prop
  | [], [] => True
  | m :: ms, y :: ys => m ρ T S = .ok (.v (.str y)) T S ∧ AllS ρ T S ms ys
  | _, _ => False
theorem js_run : ∀ {ms : List (EM Rv)} {ys : List Str} {acc : Str}, AllS ρ T S ms ys → acc.length + (ys.map (·.length)).sum ≤ 10000 → jsM ms acc ρ T S = .ok (ys.foldl (· ++ ·) acc) T S
  | [], [], _, _, _ => rfl
  | [], _ :: _, _, h, _ => (show False from h).elim
  | _ :: _, [], _, h, _ => (show False from h).elim
  | m :: ms, y :: ys, acc, ⟨h1, h2⟩, hl => by
    rw [List.map_cons, List.sum_cons] at hl
    have e : (acc ++ y).length = acc.length + y.length := by
      show (acc.cps ++ y.cps).size = _
      exact Array.size_append
    rw [ev_js_c, h1]
    show jsK (jsM ms) acc ρ (.v (.str y)) T S = _
    rw [jsK_s, if_pos (by rw [sizeLine_eqA, e]; omega), js_run h2 (by rw [e]; omega)]
    rfl
theorem fs_run {ms : List (EM Rv)} {ys : List Str} (h : AllS ρ T S ms ys) (hl : (ys.map (·.length)).sum ≤ 10000) : fsM ms ρ T S = .ok (.v (.str (ys.foldl (· ++ ·) Str.empty))) T S := by
  rw [ev_fs, js_run h (by show 0 + _ ≤ _; omega)]
  rfl
theorem str_nil (x : Str) : Str.empty ++ x = x := by
  obtain ⟨a⟩ := x
  show Str.mk (#[] ++ a) = _
  rw [Array.empty_append]
/-- how a Standing is told -/
def toldT (r w : Int) : Str := Str.ofString "right " ++ numS r ++ Str.ofString ", wrong " ++ numS w
theorem st_str {k : Nat} {r w : Int} (hr : Nm r) (hw : Nm w) (h : S[k]? = some (stI r w)) : f_Standing___str__ [.loc k] S = .ok (.v (.str (toldT r w))) S := by
  have e1 := insAt_of h
  have l1 := num_len hr
  have l2 := num_len hw
  show fnRun (m_Standing___str__ [some (.loc k)] [] S) = _
  unfold m_Standing___str__
  have hf : fsM [(cst (.str (Str.ofString "right "))), (fmtM (fldM (Str.ofString "Standing") (Str.ofString "right") (getV 0))), (cst (.str (Str.ofString ", wrong "))), (fmtM (fldM (Str.ofString "Standing") (Str.ofString "wrong") (getV 0)))] [some (.loc k)] [] S = .ok (.v (.str (toldT r w))) [] S := by
    have := fs_run (ρ := [some (.loc k)]) (T := []) (S := S) (ms := [(cst (.str (Str.ofString "right "))), (fmtM (fldM (Str.ofString "Standing") (Str.ofString "right") (getV 0))), (cst (.str (Str.ofString ", wrong "))), (fmtM (fldM (Str.ofString "Standing") (Str.ofString "wrong") (getV 0)))]) (ys := [Str.ofString "right ", numS r, Str.ofString ", wrong ", numS w])
      ⟨rfl, by
        rw [ev_fmt]
        simp! only [ev_fld, fldO_a, e1, fdI_s, st_right, fdO_s, fmtO_i, log_60 hr]
        rfl, rfl, by
        rw [ev_fmt]
        simp! only [ev_fld, fldO_a, e1, fdI_s, st_wrong, fdO_s, fmtO_i, log_60 hw]
        rfl, trivial⟩ (by
        have a1 : (Str.ofString "right ").length = 6 := by decide +kernel
        have a2 : (Str.ofString ", wrong ").length = 8 := by decide +kernel
        simp only [List.map_cons, List.map_nil, List.sum_cons, List.sum_nil, a1, a2]
        omega)
    rw [this]
    show Res.ok (Rv.v (.str (Str.empty ++ Str.ofString "right " ++ numS r ++ Str.ofString ", wrong " ++ numS w))) [] S = _
    rw [str_nil]
    rfl
  simp! only [hf]
end
/-! ### the law's own words -/
theorem same_int (a b : Int) (S : Sto) : F__law_same 25 [.v (.int a), .v (.int b)] S = .ok (.v (.bool (decide (a = b)))) S := by
  show fnRun (m__law_same (fun _ => F__law_same 24) 24 [some (.v (.int a)), some (.v (.int b)), none] [] S) = _
  unfold m__law_same
  have i1 : Ty.int.isa Ty.tuple = false := rfl
  have i2 : Ty.int.isa Ty.int = true := rfl
  have i3 : Ty.int.isa Ty.bool = false := rfl
  have e1 : ∀ T S, o_eq (.v (.bool false)) (.v (.bool false)) T S = .ok (.v (.bool true)) T S := fun T S => rfl
  simp! only [ev_frz, kFrz_a, frzR_s, ev_prd, kPr1_a, kPr2_a, prdR1_s, prdR2_s, ev_asgP, kAsP_a, ev_dkeys, kDk_a, dic_k, dic_loc, toA_frk, retR_frd, retR_prd, ev_dputX, kPx1_a, kPx2_a, kPx3_a, dpxR_o, dpxR_l, dpx1_s, dpx2_s, ev_rep, ev_revL, kRvL_a, rvLR_l, ev_min, minO_l, ev_sum, sumO_l, ev_sortL, kSrL_a, srLR_l, ev_permA, kPm_a, pick_021, pick_01, ty_int, ty_bool, ty_tup, ty_str, isiO_s, keys_dK, i1, i2, i3, e1]
theorem same_bool (a b : Bool) (S : Sto) : F__law_same 25 [.v (.bool a), .v (.bool b)] S = .ok (.v (.bool (a == b))) S := by
  cases a <;> cases b <;> rfl
theorem word_eq (r w n : Int) (S : Sto) : f__law_word [.v (.int r), .v (.int w), .v (.int n)] S = .ok (.v (.str (wordI r w n))) S := by
  show fnRun (m__law_word [some (.v (.int r)), some (.v (.int w)), some (.v (.int n))] [] S) = _
  unfold m__law_word wordI
  by_cases q1 : n < r
  · by_cases q2 : n < w
    · have q3 : n < (if r < w then r else w) := by split <;> omega
      simp! only [q1, q2, q3, if_true]
    · have q3 : ¬ n < (if r < w then r else w) := by split <;> omega
      simp! only [q1, q2, q3, if_false, if_true]
  · have q3 : ¬ n < (if r < w then r else w) := by split <;> omega
    by_cases q2 : n < w
    · simp! only [q1, q2, q3, if_false, if_true]
    · simp! only [q1, q2, q3, if_false]
theorem lesser_eq (r w : Int) (S : Sto) : f__law_lesser [.v (.int r), .v (.int w)] S = .ok (.v (.int (if r < w then r else w))) S := by
  show fnRun (m__law_lesser [some (.v (.int r)), some (.v (.int w))] [] S) = _
  unfold m__law_lesser
  by_cases q : r < w
  · simp! only [q, if_true]
  · simp! only [q, if_false]
theorem str_i {w : Int} (h : Nm w) (T S : Sto) : c_str [.v (.int w)] T S = .ok (.v (.str (numS w))) T S := by
  show (if w.natAbs.log2 < 1920 then Res.ok (Rv.v (.str (toString w))) T S else .bad) = _
  rw [if_pos (log_60 h)]
  rfl
theorem is_eq {k : Nat} {r w : Int} {S : Sto} (hr : Nm r) (hw : Nm w) (h : S[k]? = some (stI r w)) : f__law_is [.loc k, .v (.int r), .v (.int w)] S = .ok (.v (.bool true)) S := by
  have e1 := insAt_of h
  have e3 := isi_of h []
  have hb := st_base h
  have hl := lesser_eq r w S
  have hs := st_str hr hw h
  have h3 : insNo (Str.ofString "Standing") none (.loc k) S = true := insNo_of h rfl
  have c1 := str_i hr
  have c2 := str_i hw
  have hsm : ∀ (a : Int) S, F__law_same 25 [.v (.int a), .v (.int a)] S = .ok (.v (.bool true)) S := fun a S => by rw [same_int, decide_eq_true rfl]
  show fnRun (m__law_is [some (.loc k), some (.v (.int r)), some (.v (.int w))] [] S) = _
  unfold m__law_is isiC
  generalize F__law_same 25 = fs at hsm
  generalize f_Standing_base = fb at hb
  generalize f__law_lesser = fl at hl
  generalize f_Standing___str__ = ft at hs
  have hst : ∀ T, strI (Str.ofString "Standing") ft [.loc k] T S = .ok (.v (.str (toldT r w))) T S := fun T => by
    rw [strI_s _ h3]
    simp! only [ev_argR, agR_s, hs, resOf_ok]
    rfl
  have heq : ∀ (x : Str) T S, eqO false (some (.str x)) (some (.str x)) T S = .ok (.v (.bool true)) T S := fun x T S => by rw [eqO_str]; simp
  have hR : ∀ (ρ : Vn) (i j : Nat) T, ρ[i]? = some (some (.v (.int r))) → ρ[j]? = some (some (.v (.int w))) → bin o_add (bin o_add (bin o_add (cst (.str (Str.ofString "right "))) (callM c_str (consA (getV i) nilA))) (cst (.str (Str.ofString ", wrong ")))) (callM c_str (consA (getV j) nilA)) ρ T S = .ok (.v (.str (toldT r w))) T S := fun ρ i j T hi hj => by
    have l1 := num_len hr
    have l2 := num_len hw
    have a1 : (Str.ofString "right ").length = 6 := by decide +kernel
    have a2 : (Str.ofString ", wrong ").length = 8 := by decide +kernel
    have hl : ∀ x y : Str, (x ++ y).length = x.length + y.length := fun x y => by
      show (x.cps ++ y.cps).size = _
      exact Array.size_append
    have hadd : ∀ (x y : Str) T S, x.length + y.length ≤ 10000 → o_add (.v (.str x)) (.v (.str y)) T S = .ok (.v (.str (x ++ y))) T S := fun x y T S h => by
      show (if x.length + y.length ≤ 16777216 then Res.ok (Rv.v (.str (x ++ y))) T S else .bad) = _
      rw [if_pos (by omega)]
    have g1 : o_add (.v (.str (Str.ofString "right "))) (.v (.str (numS r))) T S = .ok (.v (.str (Str.ofString "right " ++ numS r))) T S := hadd _ _ _ _ (by omega)
    have g2 : o_add (.v (.str (Str.ofString "right " ++ numS r))) (.v (.str (Str.ofString ", wrong "))) T S = .ok (.v (.str (Str.ofString "right " ++ numS r ++ Str.ofString ", wrong "))) T S := hadd _ _ _ _ (by rw [hl]; omega)
    have g3 : o_add (.v (.str (Str.ofString "right " ++ numS r ++ Str.ofString ", wrong "))) (.v (.str (numS w))) T S = .ok (.v (.str (toldT r w))) T S := hadd _ _ _ _ (by rw [hl, hl]; omega)
    simp! only [hi, hj, c1, c2, g1, g2, g3]
  have hR := hR [some (.loc k), some (.v (.int r)), some (.v (.int w))] 1 2 [] rfl rfl
  generalize bin o_add (bin o_add (bin o_add (cst (.str (Str.ofString "right "))) (callM c_str (consA (getV 1) nilA))) (cst (.str (Str.ofString ", wrong ")))) (callM c_str (consA (getV 2) nilA)) = em at hR
  simp! only [e3, ev_fld, fldO_a, e1, fdI_s, st_right, st_wrong, fdO_s, hsm, ev_prop, kPrp_a, h3, ev_argR, agR_s, hb, hl, resOf_ok, noX_ok, hst, hR, heq]
end RB.Law
end
/-! text A35c -/
section
set_option Elab.async false
set_option linter.all false
set_option maxRecDepth 100000
set_option maxHeartbeats 4000000
namespace RB.Law
open PySem PySem.Spec PyProof.Rows L2 RB
/-! ### what is drawn -/
def Sz (z : Int) : Prop := 0 ≤ z ∧ z < 10 ^ 59
/-- draws that leave all behind the feed as it is -/
def DrT (fd : FM) : Prop := ∀ {n m : Nat} {S : Sto}, Feed n S → n < 900000000 → 0 < m → m < 1073741824 → ∃ (j : Nat) (S' : Sto), j < m ∧ Feed (n + 1) S' ∧ S'.tail = S.tail ∧ fd [.loc 0, .v (.int (m : Int))] S = .ok (.v (.int (j : Int))) S'
theorem drT : DrT f__law_draw := fun F hn h0 h1 => draw_eqT F (by omega) h0 h1
theorem pow_up {a b : Nat} (h : a ≤ b) : (10 : Int) ^ a ≤ 10 ^ b := by
  have e := Nat.pow_le_pow_right (n := 10) (by decide) h
  have e2 : ((10 ^ a : Nat) : Int) ≤ ((10 ^ b : Nat) : Int) := by omega
  rwa [Int.natCast_pow, Int.natCast_pow] at e2
theorem size_eq {n : Nat} {S : Sto} (F : Feed n S) (hn : n < 800000000) : ∃ (z : Int) (S' : Sto), Sz z ∧ Feed (n + 20) S' ∧ S'.tail = S.tail ∧ f__law_size [.loc 0] S = .ok (.v (.int z)) S' := by
  let P : Out → Prop := fun o => ∃ (z : Int) (S' : Sto), Sz z ∧ Feed (n + 20) S' ∧ S'.tail = S.tail ∧ fnRun o = .ok (.v (.int z)) S'
  unfold f__law_size
  rw [fn_run (ρ := [some (.loc 0), none, none, none]) rfl]
  show P _
  unfold m__law_size
  have hD : DrT f__law_draw := drT
  generalize f__law_draw = fd at hD ⊢
  obtain ⟨k, S1, hk, F1, t1, e1⟩ := hD F (by omega) (m := 5) (by decide) (by decide)
  have e1 : fd [.loc 0, .v (.int 5)] S = .ok (.v (.int (k : Int))) S1 := e1
  let ρ0 : Option Rv → Option Rv → Vn := fun a2 a3 => [some (.loc 0), some (.v (.int (k : Int))), a2, a3]
  refine seq_mid P (fun ρ T S' => S1 = S' ∧ T = [] ∧ ρ = ρ0 none none) ?_ ?_
  · simp! only [e1]
    exact nx1_next ⟨rfl, rfl, rfl⟩
  rintro ρ T _ ⟨rfl, rfl, rfl⟩
  by_cases hk3 : (k : Int) < 3
  · obtain ⟨m, hm0, hm1, hat⟩ : ∃ m : Nat, 0 < m ∧ m ≤ 30 ∧ ∀ T S, oixR (some (.list [.int 2, .int 4, .int 30])) (k : Int) T S = .ok (.v (.int (m : Int))) T S := by
      have : k = 0 ∨ k = 1 ∨ k = 2 := by omega
      rcases this with rfl | rfl | rfl
      · exact ⟨2, by decide, by decide, fun T S => rfl⟩
      · exact ⟨4, by decide, by decide, fun T S => rfl⟩
      · exact ⟨30, by decide, by decide, fun T S => rfl⟩
    obtain ⟨j, S2, hj, F2, t2, e2⟩ := hD F1 (by omega) (m := m) hm0 (by omega)
    simp! only [ρ0, hk3, if_true, hat, e2]
    have h30 : (j : Int) < 30 := by omega
    exact ⟨_, S2, ⟨by omega, Int.lt_of_lt_of_le h30 (by decide)⟩, F2.mono (by omega), by rw [t2, t1], rfl⟩
  · refine seq_mid P (fun ρ T S' => S1 = S' ∧ T = [] ∧ ρ = ρ0 none none) ?_ ?_
    · simp! only [ρ0, hk3, if_false]
      exact nx1_next ⟨rfl, rfl, rfl⟩
    rintro ρ T _ ⟨rfl, rfl, rfl⟩
    refine seq_mid P (fun ρ T S' => S1 = S' ∧ T = [] ∧ ρ = ρ0 (some (.v (.int 0))) none) ?_ ?_
    · simp! only [ρ0]
      exact nx1_next ⟨rfl, rfl, rfl⟩
    rintro ρ T _ ⟨rfl, rfl, rfl⟩
    obtain ⟨q, S2, hq, F2, t2, e2⟩ : ∃ (q : Nat) (S2 : Sto), q ≤ 9 ∧ Feed (n + 2) S2 ∧ S2.tail = S.tail ∧ ∀ T, (rng1 (consA (ifM (asB (bin o_eq (getV 1) (cst (.int (3))))) (cst (.int (9))) (callM (callF fd) (consA (getV 0) (consA (cst (.int (10))) nilA)))) nilA)) (ρ0 (some (.v (.int 0))) none) T S1 = .ok ((List.range q).map fun (i : Nat) => PyData.int (i : Int)) T S2 := by
      by_cases h3 : (k : Int) = 3
      · refine ⟨9, S1, Nat.le_refl _, F1.mono (by omega), t1, fun T => ?_⟩
        have e9 : ∀ T S, rngR [.v (.int 9)] T S = .ok ((List.range 9).map fun (i : Nat) => PyData.int (i : Int)) T S := fun T S => rfl
        simp! only [ρ0, h3, decide_true, e9, if_true]
      · obtain ⟨j, S2, hj, F2, t2, e2⟩ := hD F1 (by omega) (m := 10) (by decide) (by decide)
        have e2 : fd [.loc 0, .v (.int 10)] S1 = .ok (.v (.int (j : Int))) S2 := e2
        refine ⟨j, S2, by omega, F2, by rw [t2, t1], fun T => ?_⟩
        simp! only [ρ0, h3, decide_false, if_false, e2]
        rw [rngR_n _ S2 (show j < 2 ^ 62 by omega), intsD_map]
    refine seq_mid P (fun ρ T S' => T = [] ∧ ∃ (g : Int) (a3 : Option Rv), 0 ≤ g ∧ g < 10 ^ 54 ∧ Feed (n + 12) S' ∧ S'.tail = S.tail ∧ ρ = ρ0 (some (.v (.int g))) a3) ?_ ?_
    · rw [ev_for, e2]
      show nx1 (forD (tgName 3) _ ((List.range q).map fun (i : Nat) => PyData.int (i : Int)) (ρ0 (some (.v (.int 0))) none) [] S2) _
      refine for_end (fun o => nx1 o _) (xs := List.range q) (enc := fun (i : Nat) => PyData.int (i : Int)) (fun pre ρ T S' => T = [] ∧ ∃ (g : Int) (a3 : Option Rv), 0 ≤ g ∧ g < 10 ^ (6 * pre.length) ∧ Feed (n + 2 + pre.length) S' ∧ S'.tail = S.tail ∧ ρ = ρ0 (some (.v (.int g))) a3) ⟨rfl, 0, none, by decide, by decide, F2, t2, rfl⟩ ?_ ?_
      · rintro pre i post ρ T S3 hp ⟨rfl, g, a3, g0, g1, F3, t3, rfl⟩
        have hpl := congrArg List.length hp
        rw [List.length_range, List.length_append, List.length_cons] at hpl
        obtain ⟨j, S4, hj, F4, t4, e4⟩ := hD F3 (by omega) (m := 1000000) (by decide) (by decide)
        have e4 : fd [.loc 0, .v (.int 1000000)] S3 = .ok (.v (.int (j : Int))) S4 := e4
        refine ⟨_, rfl, ?_⟩
        have hb : (10 : Int) ^ (6 * pre.length) ≤ 10 ^ 54 := pow_up (by omega)
        have gs : g.natAbs < 2 ^ 400 := by
          have : (10 : Int) ^ 54 < 2 ^ 400 := by decide +kernel
          omega
        have p6 : ∀ T S, o_pow (.v (.int 10)) (.v (.int 6)) T S = .ok (.v (.int 1000000)) T S := fun T S => rfl
        have hmul : ∀ T S, o_mul (.v (.int g)) (.v (.int 1000000)) T S = .ok (.v (.int (g * 1000000))) T S := fun T S => o_mul_small T S g 1000000 gs (by decide +kernel)
        simp! only [ρ0, p6, hmul, e4]
        refine nexts_next ⟨rfl, g * 1000000 + (j : Int), _, by omega, ?_, by rw [List.length_append, List.length_singleton]; exact F4, by rw [t4, t3], rfl⟩
        rw [List.length_append, List.length_singleton, Nat.mul_add, Int.pow_add]
        have : g + 1 ≤ 10 ^ (6 * pre.length) := by omega
        have h2 := Int.mul_le_mul_of_nonneg_right this (show (0 : Int) ≤ 1000000 by decide)
        have h3 : (10 : Int) ^ (6 * 1) = 1000000 := by decide
        rw [h3]
        omega
      · rintro ρ T S3 ⟨rfl, g, a3, g0, g1, F3, t3, rfl⟩
        rw [List.length_range] at g1 F3
        refine nx1_next ⟨rfl, g, a3, g0, Int.lt_of_lt_of_le g1 (pow_up (by omega)), F3.mono (by omega), t3, rfl⟩
    rintro ρ T S3 ⟨rfl, g, a3, g0, g1, F3, t3, rfl⟩
    obtain ⟨j, S4, hj, F4, t4, e4⟩ := hD F3 (by omega) (m := 100000) (by decide) (by decide)
    have e4 : fd [.loc 0, .v (.int 100000)] S3 = .ok (.v (.int (j : Int))) S4 := e4
    have gs : g.natAbs < 2 ^ 400 := by
      have : (10 : Int) ^ 54 < 2 ^ 400 := by decide +kernel
      omega
    have p5 : ∀ T S, o_pow (.v (.int 10)) (.v (.int 5)) T S = .ok (.v (.int 100000)) T S := fun T S => rfl
    have hmul : ∀ T S, o_mul (.v (.int g)) (.v (.int 100000)) T S = .ok (.v (.int (g * 100000))) T S := fun T S => o_mul_small T S g 100000 gs (by decide +kernel)
    simp! only [ρ0, p5, hmul, e4]
    refine ⟨_, S4, ⟨by omega, ?_⟩, F4.mono (by omega), by rw [t4, t3], rfl⟩
    have h3 : (10 : Int) ^ 59 = 10 ^ 54 * 100000 := by decide
    rw [h3]
    omega
theorem odd_eq {n : Nat} {S : Sto} (F : Feed n S) (hn : n < 800000000) : ∃ (d : D) (S' : Sto), d ∈ oddL ∧ Feed (n + 1) S' ∧ S'.tail = S.tail ∧ f__law_odd [.loc 0] S = .ok (.v d) S' := by
  obtain ⟨y, S', hy, F', t, e⟩ := any_lT (enc := fun d : D => d) (ys := oddL) (by decide) (by decide) F (by omega)
  rw [List.map_id'] at e
  refine ⟨y, S', hy, F', t, ?_⟩
  have e : f__law_any [.loc 0, .v (.list [.bool true, .bool false, .none, .int (-1), .int (-7), .str (Str.ofString "1"), .str (Str.ofString ""), .tuple [], .tuple [.int 1], .list [.int 1], .list [], .str (Str.ofString "a")])] S = .ok (.v y) S' := e
  show fnRun (m__law_odd [some (.loc 0), none] [] S) = _
  unfold m__law_odd
  generalize f__law_any = fa at e ⊢
  simp! only [e]
end RB.Law
end
/-! text A35d -/
section
set_option Elab.async false
set_option linter.all false
set_option maxRecDepth 100000
set_option maxHeartbeats 4000000
namespace RB.Law
open PySem PySem.Spec PyProof.Rows L2 RB
/-! ### answers, sums -/
structure St (n k : Nat) (r w : Int) (S : Sto) : Prop where
  f : Feed n S
  a : At0 k (stI r w) S
theorem St.app {n k : Nat} {r w : Int} {S : Sto} (h : St n k r w S) (X : Sto) : St n k r w (S ++ X) := ⟨h.f.app X, h.a.app X⟩
theorem St.mono {n m k : Nat} {r w : Int} {S : Sto} (h : St n k r w S) (e : n ≤ m) : St m k r w S := ⟨h.f.mono e, h.a⟩
theorem St.get {n k : Nat} {r w : Int} {S : Sto} (h : St n k r w S) : S[k]? = some (stI r w) := h.a.2
theorem Sz.nm {z : Int} (h : Sz z) : Nm z := ⟨h.1, Int.lt_of_lt_of_le h.2 (by decide +kernel)⟩
theorem Sz.add {z y : Int} (h : Sz z) (g : Sz y) : Nm (z + y) := by
  obtain ⟨h1, h2⟩ := h
  obtain ⟨g1, g2⟩ := g
  refine ⟨by omega, ?_⟩
  have : (10 : Int) ^ 60 = 10 ^ 59 * 10 := by decide +kernel
  rw [this]
  omega
theorem insI {k : Nat} {r w : Int} {S : Sto} (h : S[k]? = some (stI r w)) : insNo (Str.ofString "Standing") none (.loc k) S = true := insNo_of h rfl
theorem sizes_eq {n k : Nat} {r w : Int} {S : Sto} (h : St n k r w S) (hn : n < 800000000) : ∃ (z : Int) (S' : Sto), Sz z ∧ St (n + 20) k r w S' ∧ f__law_size [.loc 0] S = .ok (.v (.int z)) S' := by
  obtain ⟨z, S', hz, F', t, e⟩ := size_eq h.f hn
  exact ⟨z, S', hz, ⟨F', h.a.tail t⟩, e⟩
theorem odds_eq {n k : Nat} {r w : Int} {S : Sto} (h : St n k r w S) (hn : n < 800000000) : ∃ (d : D) (S' : Sto), d ∈ oddL ∧ St (n + 1) k r w S' ∧ f__law_odd [.loc 0] S = .ok (.v d) S' := by
  obtain ⟨z, S', hz, F', t, e⟩ := odd_eq h.f hn
  exact ⟨z, S', hz, ⟨F', h.a.tail t⟩, e⟩
theorem draws_eq {n k : Nat} {r w : Int} {S : Sto} (h : St n k r w S) (hn : n < 800000000) {m : Nat} (h0 : 0 < m) (h1 : m < 1073741824) : ∃ (j : Nat) (S' : Sto), j < m ∧ St (n + 1) k r w S' ∧ f__law_draw [.loc 0, .v (.int (m : Int))] S = .ok (.v (.int (j : Int))) S' := by
  obtain ⟨z, S', hz, F', t, e⟩ := drT h.f (by omega) h0 h1
  exact ⟨z, S', hz, ⟨F', h.a.tail t⟩, e⟩
theorem ev_negIM (cls : Str) (fm : FM) (m : EM Rv) (ρ : Vn) (T S : Sto) : negIM cls fm m ρ T S = (m ρ T S).bind (negI cls fm) := rfl
theorem negI_s (fm : FM) {k : Nat} {r w : Int} {S : Sto} (h : S[k]? = some (stI r w)) (T : Sto) : negI (Str.ofString "Standing") fm (.loc k) T S = argR fm (.loc k) [] T S := if_pos (insI h)
theorem binRI_s (fm : FM) {k : Nat} {r w : Int} {S : Sto} (h : S[k]? = some (stI r w)) (d : D) (T : Sto) : binRI (Str.ofString "Standing") fm (.v d) (.loc k) T S = argR fm (.loc k) [.v d] T S := if_pos ⟨rfl, insI h⟩
theorem binI_s (fm : FM) {k : Nat} {r w : Int} {S : Sto} (h : S[k]? = some (stI r w)) (d : D) (T : Sto) : binI (Str.ofString "Standing") fm (.loc k) (.v d) T S = argR fm (.loc k) [.v d] T S := if_pos ⟨insI h, rfl⟩
theorem ne_strA (x : Str) (T S : Sto) : eqO true (some (.str x)) (some (.str x)) T S = .ok (.v (.bool false)) T S := by
  rw [eqO_str]
  simp
theorem answers_eq {n k : Nat} {r w : Int} {S : Sto} (h : St n k r w S) (hn : n < 700000000) (hr : Sz r) (hw : Sz w) : ∃ S', St (n + 20) k r w S' ∧ f__law_are_answers_right [.loc 0, .loc k, .v (.int r), .v (.int w)] S = .ok (.v (.bool true)) S' := by
  let P : Out → Prop := fun o => ∃ S', St (n + 20) k r w S' ∧ fnRun o = .ok (.v (.bool true)) S'
  unfold f__law_are_answers_right
  rw [fn_run (ρ := [some (.loc 0), some (.loc k), some (.v (.int r)), some (.v (.int w)), none, none, none]) rfl]
  show P _
  unfold m__law_are_answers_right
  obtain ⟨z, S1, hz, h1, e1⟩ := sizes_eq h (by omega)
  have hw1 := word_eq
  have hca := fun {S : Sto} {k : Nat} {r w n : Int} (hn : 0 ≤ n) (h : S[k]? = some (stI r w)) => st_call hn h
  have hne := fun {S : Sto} {k : Nat} {r w : Int} (hr : 0 ≤ r) (hw : 0 ≤ w) (h : S[k]? = some (stI r w)) => st_neg hr hw h
  generalize f__law_size = f1 at e1 ⊢
  generalize f__law_word = f2 at hw1 ⊢
  generalize f_Standing___call__ = f3 at hca ⊢
  generalize f_Standing___neg__ = f4 at hne ⊢
  let ρ0 : Option Rv → Option Rv → Option Rv → Vn := fun a4 a5 a6 => [some (.loc 0), some (.loc k), some (.v (.int r)), some (.v (.int w)), a4, a5, a6]
  refine seq_mid P (fun ρ T S' => S1 = S' ∧ T = [] ∧ ρ = ρ0 (some (.v (.list ([0, r, w, r + 1, w + 1, z].map .int)))) none none) ?_ ?_
  · simp! only [e1]
    exact nx1_next ⟨rfl, rfl, rfl⟩
  rintro ρ T _ ⟨rfl, rfl, rfl⟩
  obtain ⟨B6, hB6, hB0⟩ : ∃ B6 : List Int, B6.length = 6 ∧ (∀ b ∈ B6, 0 ≤ b) ∧ B6 = [0, r, w, r + 1, w + 1, z] := ⟨_, rfl, fun b hb => by
    have hr0 := hr.1
    have hw0 := hw.1
    have hz0 := hz.1
    simp only [List.mem_cons, List.not_mem_nil, or_false] at hb
    rcases hb with rfl | rfl | rfl | rfl | rfl | rfl <;> omega, rfl⟩
  obtain ⟨hB0, hB⟩ := hB0
  rw [← hB]
  obtain ⟨bs, hbs, e2⟩ : ∃ bs : List Int, (∀ b ∈ bs, 0 ≤ b) ∧ (bin o_add (getV 4) (lcM false (seqM (tupM (consA (getV 2) (consA (getV 3) nilA)))) (tgName 6) (asB (bin o_gt (getV 6) (cst (.int (0))))) (bin o_sub (getV 6) (cst (.int (1)))) [6])) (ρ0 (some (.v (.list (B6.map .int)))) none none) [] S1 = .ok (.v (.list (bs.map .int))) [] S1 := by
    refine ⟨B6 ++ ([r, w].filter fun b => decide (0 < b)).map (· - 1), fun b hb => ?_, ?_⟩
    · rcases List.mem_append.mp hb with hb | hb
      · exact hB0 b hb
      · obtain ⟨a, ha, rfl⟩ := List.mem_map.mp hb
        have := of_decide_eq_true (List.mem_filter.mp ha).2
        omega
    · have hc : ∀ T, compD (tgName 6) (asB (bin o_gt (getV 6) (cst (.int (0))))) (bin o_sub (getV 6) (cst (.int (1)))) (ρ0 (some (.v (.list (B6.map .int)))) none none) [.int r, .int w] T S1 = .ok ((([r, w].filter fun b => decide (0 < b)).map (· - 1)).map .int) T S1 := fun T => by
        rw [show ([.int r, .int w] : List D) = [r, w].map .int from rfl, comp_enc (fun b : Int => decide (0 < b)) (fun b => .int (b - 1)) (fun b hb => ⟨_, rfl, by simp! only [ρ0], fun _ => by simp! only [ρ0]⟩), List.map_map]
        rfl
      simp only [ρ0] at hc
      have hl : (([r, w].filter fun b => decide (0 < b)).map (· - 1)).length ≤ 2 := by
        rw [List.length_map]
        exact List.length_filter_le _ _
      generalize ([r, w].filter fun b => decide (0 < b)).map (· - 1) = F2 at hc hl
      simp! only [ρ0, hc]
      rw [if_pos (by rw [List.length_map]; omega), if_pos (by rw [List.length_map, List.length_map]; omega), List.map_append]
  refine seq_mid P (fun ρ T S' => S1 = S' ∧ T = [] ∧ ρ = ρ0 (some (.v (.list (bs.map .int)))) none none) ?_ ?_
  · rw [ev_set, e2]
    exact nx1_next ⟨rfl, rfl, rfl⟩
  rintro ρ T _ ⟨rfl, rfl, rfl⟩
  refine seq_mid P (fun ρ T S' => T = [] ∧ St (n + 20) k r w S' ∧ ∃ a5, ρ = ρ0 (some (.v (.list (bs.map .int)))) a5 none) ?_ ?_
  · simp! only [ρ0]
    refine for_end (fun o => nx1 o _) (xs := bs) (enc := PyData.int) (fun pre ρ T S' => T = [] ∧ St (n + 20) k r w S' ∧ ∃ a5, ρ = ρ0 (some (.v (.list (bs.map .int)))) a5 none) ⟨rfl, h1, none, rfl⟩ ?_ ?_
    · rintro pre b post ρ T S2 hp ⟨rfl, h2, a5, rfl⟩
      have hb := hbs b (by rw [hp]; simp)
      refine ⟨_, rfl, ?_⟩
      have c1 := hca hb h2.get
      have c2 := hw1 r w b S2
      have c3 := hne hr.1 hw.1 h2.get
      have h3 := h2.app [stI w r]
      have hnew : (S2 ++ [stI w r])[S2.length]? = some (stI w r) := List.getElem?_concat_length
      have c4 := hca hb hnew
      have c5 := hw1 w r b (S2 ++ [stI w r])
      have i1 := insI h2.get
      have i2 := insI hnew
      have ns := negI_s f4 h2.get
      simp! only [ρ0, ev_self, kSf1_a, kSf2_a, i1, ev_argR, agR_s, c1, resOf_ok, c2, ne_strA, ev_negIM, ns, c3, i2, c4, c5]
      exact nexts_next ⟨rfl, h3, _, rfl⟩
    · rintro ρ T S2 ⟨rfl, h2, a5, rfl⟩
      exact nx1_next ⟨rfl, h2, a5, rfl⟩
  rintro ρ T S2 ⟨rfl, h2, a5, rfl⟩
  simp! only [ρ0]
  exact ⟨S2, h2, rfl⟩
end RB.Law
end
/-! text A35e -/
section
set_option Elab.async false
set_option linter.all false
set_option maxRecDepth 100000
set_option maxHeartbeats 4000000
namespace RB.Law
open PySem PySem.Spec PyProof.Rows L2 RB
/-! ### sums, pairs -/
theorem snocI {S : Sto} {r w : Int} : (S ++ [stI r w])[S.length]? = some (stI r w) := List.getElem?_concat_length
theorem sums_eq {n k : Nat} {r w : Int} {S : Sto} (h : St n k r w S) (hn : n < 700000000) (hr : Sz r) (hw : Sz w) : ∃ S', St (n + 20) k r w S' ∧ f__law_are_sums_right [.loc 0, .loc k, .v (.int r), .v (.int w)] S = .ok (.v (.bool true)) S' := by
  let P : Out → Prop := fun o => ∃ S', St (n + 20) k r w S' ∧ fnRun o = .ok (.v (.bool true)) S'
  unfold f__law_are_sums_right
  rw [fn_run (ρ := [some (.loc 0), some (.loc k), some (.v (.int r)), some (.v (.int w)), none]) rfl]
  show P _
  unfold m__law_are_sums_right
  obtain ⟨z, S1, hz, h1, e1⟩ := sizes_eq h (by omega)
  have hr0 := hr.1
  have hw0 := hw.1
  have hz0 := hz.1
  have hrz := hr.add hz
  have hwz := hw.add hz
  have a1 := st_add hr0 hw0 hz0 h1.get
  have h2 := h1.app [stI (r + z) (w + z)]
  have i1 := is_eq hrz hwz (snocI (S := S1))
  have a2 := st_radd hr0 hw0 hz0 h2.get
  have h3 := h2.app [stI (r + z) (w + z)]
  have i2 := is_eq hrz hwz (snocI (S := S1 ++ [stI (r + z) (w + z)]))
  generalize hS3 : S1 ++ [stI (r + z) (w + z)] ++ [stI (r + z) (w + z)] = S3 at a2 h3 i2
  have a3 := st_neg hr0 hw0 h3.get
  have h4 := h3.app [stI w r]
  have i3 := is_eq hw.nm hr.nm (snocI (S := S3) (r := w) (w := r))
  have a4 := st_neg hr0 hw0 h4.get
  have h5 := h4.app [stI w r]
  have a5 := st_neg hw0 hr0 (snocI (S := S3 ++ [stI w r]) (r := w) (w := r))
  have h6 := h5.app [stI r w]
  have i5 := is_eq hr.nm hw.nm (snocI (S := S3 ++ [stI w r] ++ [stI w r]) (r := r) (w := w))
  generalize hS6 : S3 ++ [stI w r] ++ [stI w r] ++ [stI r w] = S6 at a5 h6 i5
  have a6 := st_add hr0 hw0 (show (0 : Int) ≤ 0 by decide) h6.get
  rw [Int.add_zero, Int.add_zero] at a6
  have h7 := h6.app [stI r w]
  have i6 := is_eq hr.nm hw.nm (snocI (S := S6) (r := r) (w := w))
  have a7 := st_open hz0 (S6 ++ [stI r w])
  have h8 := h7.app [stI z z]
  have i7 := is_eq hz.nm hz.nm (snocI (S := S6 ++ [stI r w]) (r := z) (w := z))
  have a8 := st_open hz0 (S6 ++ [stI r w] ++ [stI z z])
  have h9 := h8.app [stI z z]
  have i8 := is_eq hz.nm hz.nm (snocI (S := S6 ++ [stI r w] ++ [stI z z]) (r := z) (w := z))
  generalize f__law_size = f1 at e1 ⊢
  generalize f__law_is = f2 at i1 i2 i3 i5 i6 i7 i8 ⊢
  generalize f_Standing___add__ = f3 at a1 a6 ⊢
  generalize f_Standing___radd__ = f4 at a2 ⊢
  generalize f_Standing___neg__ = f5 at a3 a4 a5 ⊢
  generalize f_Standing_open_at = f6 at a7 a8 ⊢
  have b1 := binI_s f3 h1.get (.int z)
  have b2 := binRI_s f4 h2.get (.int z)
  have b3 := negI_s f5 h3.get
  have b4 := negI_s f5 h4.get
  have b5 := negI_s f5 (snocI (S := S3 ++ [stI w r]) (r := w) (w := r))
  have b6 := binI_s f3 h6.get (.int 0)
  let ρ0 : Vn := [some (.loc 0), some (.loc k), some (.v (.int r)), some (.v (.int w)), some (.v (.int z))]
  refine seq_mid P (fun ρ T S' => S1 = S' ∧ T = [] ∧ ρ = ρ0) ?_ ?_
  · simp! only [e1]
    exact nx1_next ⟨rfl, rfl, rfl⟩
  rintro ρ T _ ⟨rfl, rfl, rfl⟩
  refine seq_mid P (fun ρ T S' => S3 = S' ∧ T = [] ∧ ρ = ρ0) ?_ ?_
  · simp! only [ρ0, b1, ev_argR, agR_s, a1, resOf_ok, i1, b2, a2, hS3, i2]
    exact nx1_next ⟨rfl, rfl, rfl⟩
  rintro ρ T _ ⟨rfl, rfl, rfl⟩
  refine seq_mid P (fun ρ T S' => S6 ++ [stI r w] = S' ∧ T = [] ∧ ρ = ρ0) ?_ ?_
  · simp! only [ρ0, ev_negIM, b3, ev_argR, agR_s, a3, resOf_ok, i3, b4, a4, b5, a5, hS6, i5, b6, a6, i6]
    exact nx1_next ⟨rfl, rfl, rfl⟩
  rintro ρ T _ ⟨rfl, rfl, rfl⟩
  have hp2 : ∀ a : Rv, pick [0] [a] = [a] := fun a => rfl
  simp! only [ρ0, ev_frz, kFrz_a, frzR_s, ev_prd, kPr1_a, kPr2_a, prdR1_s, prdR2_s, ev_asgP, kAsP_a, ev_dkeys, kDk_a, dic_k, dic_loc, toA_frk, retR_frd, retR_prd, ev_dputX, kPx1_a, kPx2_a, kPx3_a, dpxR_o, dpxR_l, dpx1_s, dpx2_s, ev_rep, ev_revL, kRvL_a, rvLR_l, ev_min, minO_l, ev_sum, sumO_l, ev_sortL, kSrL_a, srLR_l, ev_permA, kPm_a, pick_021, pick_01, ty_int, ty_bool, ty_tup, ty_str, isiO_s, keys_dK, a7, i7, hp2, a8, i8]
  exact ⟨_, h9, rfl⟩
end RB.Law
end
/-! text A35f -/
section
set_option Elab.async false
set_option linter.all false
set_option maxRecDepth 100000
set_option maxHeartbeats 4000000
namespace RB.Law
open PySem PySem.Spec PyProof.Rows L2 RB
/-! ### pairs -/
theorem told_em {r w : Int} (hr : Nm r) (hw : Nm w) (ρ : Vn) (i j : Nat) (T S : Sto) (hi : ρ[i]? = some (some (.v (.int r)))) (hj : ρ[j]? = some (some (.v (.int w)))) : bin o_add (bin o_add (bin o_add (cst (.str (Str.ofString "right "))) (callM c_str (consA (getV i) nilA))) (cst (.str (Str.ofString ", wrong ")))) (callM c_str (consA (getV j) nilA)) ρ T S = .ok (.v (.str (toldT r w))) T S := by
  have c1 := str_i hr
  have c2 := str_i hw
  have l1 := num_len hr
  have l2 := num_len hw
  have a1 : (Str.ofString "right ").length = 6 := by decide +kernel
  have a2 : (Str.ofString ", wrong ").length = 8 := by decide +kernel
  have hl : ∀ x y : Str, (x ++ y).length = x.length + y.length := fun x y => by
    show (x.cps ++ y.cps).size = _
    exact Array.size_append
  have hadd : ∀ (x y : Str) T S, x.length + y.length ≤ 10000 → o_add (.v (.str x)) (.v (.str y)) T S = .ok (.v (.str (x ++ y))) T S := fun x y T S h => by
    show (if x.length + y.length ≤ 16777216 then Res.ok (Rv.v (.str (x ++ y))) T S else .bad) = _
    rw [if_pos (by omega)]
  have g1 : o_add (.v (.str (Str.ofString "right "))) (.v (.str (numS r))) T S = .ok (.v (.str (Str.ofString "right " ++ numS r))) T S := hadd _ _ _ _ (by omega)
  have g2 : o_add (.v (.str (Str.ofString "right " ++ numS r))) (.v (.str (Str.ofString ", wrong "))) T S = .ok (.v (.str (Str.ofString "right " ++ numS r ++ Str.ofString ", wrong "))) T S := hadd _ _ _ _ (by rw [hl]; omega)
  have g3 : o_add (.v (.str (Str.ofString "right " ++ numS r ++ Str.ofString ", wrong "))) (.v (.str (numS w))) T S = .ok (.v (.str (toldT r w))) T S := hadd _ _ _ _ (by rw [hl, hl]; omega)
  simp! only [hi, hj, c1, c2, g1, g2, g3]
section
variable {S : Sto} {k : Nat} {r w : Int} {fm : FM} {c : Bool}
theorem cmI_l {j : Nat} {r2 w2 : Int} (hk : S[k]? = some (stI r w)) (hj : S[j]? = some (stI r2 w2)) (h : fm [.loc k, .loc j] S = .ok (.v (.bool c)) S) (T : Sto) : cmI (Str.ofString "Standing") fm (.loc k) (.loc j) T S = .ok (.v (.bool c)) T S := by
  unfold cmI
  rw [if_pos ⟨insI hk, by show (false || insNo _ none (.loc j) S) = true; rw [Bool.false_or]; exact insI hj⟩]
  have e : argR fm (.loc k) [.loc j] T S = .ok (.v (.bool c)) T S := by
    show resOf T (fm [.loc k, .loc j] S) = _
    rw [h]
    rfl
  rw [e]
theorem cmI_v {d : D} (hk : S[k]? = some (stI r w)) (h : fm [.loc k, .v d] S = .ok (.v (.bool c)) S) (T : Sto) : cmI (Str.ofString "Standing") fm (.loc k) (.v d) T S = .ok (.v (.bool c)) T S := by
  unfold cmI
  rw [if_pos ⟨insI hk, rfl⟩]
  have e : argR fm (.loc k) [.v d] T S = .ok (.v (.bool c)) T S := by
    show resOf T (fm [.loc k, .v d] S) = _
    rw [h]
    rfl
  rw [e]
theorem neJ_l {j : Nat} {r2 w2 : Int} (hk : S[k]? = some (stI r w)) (hj : S[j]? = some (stI r2 w2)) (h : fm [.loc k, .loc j] S = .ok (.v (.bool c)) S) (T : Sto) : neJ (Str.ofString "Standing") fm (.loc k) (.loc j) T S = .ok (.v (.bool (!c))) T S := by
  unfold neJ
  rw [if_pos ⟨insI hk, by show (false || insNo _ none (.loc j) S) = true; rw [Bool.false_or]; exact insI hj⟩, h]
theorem neJ_v {d : D} (hk : S[k]? = some (stI r w)) (h : fm [.loc k, .v d] S = .ok (.v (.bool c)) S) (T : Sto) : neJ (Str.ofString "Standing") fm (.loc k) (.v d) T S = .ok (.v (.bool (!c))) T S := by
  unfold neJ
  rw [if_pos ⟨insI hk, rfl⟩, h]
end
theorem pairs_eq {n k : Nat} {r w : Int} {S : Sto} (h : St n k r w S) (hn : n < 700000000) (hr : Sz r) (hw : Sz w) : ∃ S', St (n + 80) k r w S' ∧ f__law_are_pairs_right [.loc 0, .loc k, .v (.int r), .v (.int w)] S = .ok (.v (.bool true)) S' := by
  let P : Out → Prop := fun o => ∃ S', St (n + 80) k r w S' ∧ fnRun o = .ok (.v (.bool true)) S'
  unfold f__law_are_pairs_right
  rw [fn_run (ρ := [some (.loc 0), some (.loc k), some (.v (.int r)), some (.v (.int w)), none, none, none, none, none, none]) rfl]
  show P _
  unfold m__law_are_pairs_right
  have hr0 := hr.1
  have hw0 := hw.1
  have hSz := fun {n k : Nat} {r w : Int} {S : Sto} (h : St n k r w S) (hn : n < 800000000) => sizes_eq h hn
  have hDr := fun {n k : Nat} {r w : Int} {S : Sto} (h : St n k r w S) (hn : n < 800000000) {m : Nat} (h0 : 0 < m) (h1 : m < 1073741824) => draws_eq h hn h0 h1
  have hMk := fun {r w : Int} (hr : 0 ≤ r) (hw : 0 ≤ w) (T S : Sto) => st_make hr hw T S
  have hLe := fun {S : Sto} {k j : Nat} {r w r2 w2 : Int} (h1 : S[k]? = some (stI r w)) (h2 : S[j]? = some (stI r2 w2)) => st_le h1 h2
  have hEq := fun {S : Sto} {k j : Nat} {r w r2 w2 : Int} (h1 : S[k]? = some (stI r w)) (h2 : S[j]? = some (stI r2 w2)) => st_eq h1 h2
  have hEd := fun {k : Nat} (d : D) (S : Sto) => st_eq_d (k := k) d S
  have hSb := same_bool
  have hTo := told_em hr.nm hw.nm [some (.loc 0), some (.loc k), some (.v (.int r)), some (.v (.int w))]
  generalize f__law_size = f1 at hSz ⊢
  generalize f__law_draw = f2 at hDr ⊢
  generalize f_Standing___init__ = f3 at hMk ⊢
  generalize f_Standing___le__ = f4 at hLe ⊢
  generalize f_Standing___eq__ = f5 at hEq hEd ⊢
  generalize F__law_same 25 = f6 at hSb ⊢
  let ρ0 : Option Rv → Option Rv → Option Rv → Option Rv → Option Rv → Option Rv → Vn := fun a4 a5 a6 a7 a8 a9 => [some (.loc 0), some (.loc k), some (.v (.int r)), some (.v (.int w)), a4, a5, a6, a7, a8, a9]
  refine seq_mid P (fun ρ T S' => T = [] ∧ St (n + 75) k r w S' ∧ ∃ a4 a5 a6 a7 a8, ρ = ρ0 a4 a5 a6 a7 a8 none) ?_ ?_
  · have e3 : ∀ T S, rngR [.v (.int 3)] T S = .ok ((List.range 3).map fun (i : Nat) => PyData.int (i : Int)) T S := fun T S => rfl
    simp! only [e3]
    refine for_end (fun o => nx1 o _) (xs := List.range 3) (enc := fun (i : Nat) => PyData.int (i : Int)) (fun pre ρ T S' => T = [] ∧ St (n + 25 * pre.length) k r w S' ∧ ∃ a4 a5 a6 a7 a8, ρ = ρ0 a4 a5 a6 a7 a8 none) ⟨rfl, h, _, _, _, _, _, rfl⟩ ?_ ?_
    · rintro pre i post ρ T S1 hp ⟨rfl, h1, a4, a5, a6, a7, a8, rfl⟩
      have hpl := congrArg List.length hp
      rw [List.length_range, List.length_append, List.length_cons] at hpl
      refine ⟨_, rfl, ?_⟩
      rw [List.length_append, List.length_singleton]
      generalize hq : n + 25 * pre.length = q at h1
      have hq2 : n + 25 * (pre.length + 1) = q + 25 := by omega
      rw [hq2]
      have hqn : q < 800000000 := by omega
      refine seq_mid (fun o => nexts o _) (fun ρ T S' => S1 = S' ∧ T = [] ∧ ρ = ρ0 (some (.v (.int (i : Int)))) (some (.v (.int r))) (some (.v (.int w))) a7 a8 none) ?_ ?_
      · simp! only [ρ0]
        exact nx1_next ⟨rfl, rfl, rfl⟩
      rintro ρ T _ ⟨rfl, rfl, rfl⟩
      refine seq_mid (fun o => nexts o _) (fun ρ T S' => T = [] ∧ ∃ x y : Int, 0 ≤ x ∧ 0 ≤ y ∧ St (q + 2) k r w S' ∧ ρ = ρ0 (some (.v (.int (i : Int)))) (some (.v (.int x))) (some (.v (.int y))) a7 a8 none) ?_ ?_
      · by_cases hi : (i : Int) = 1
        · obtain ⟨j, S2, hj, h2, e2⟩ := hDr h1 (by omega) (m := 3) (by decide) (by decide)
          have e2 : f2 [.loc 0, .v (.int 3)] S1 = .ok (.v (.int (j : Int))) S2 := e2
          by_cases hw1 : 0 < w
          · obtain ⟨j2, S3, hj2, h3, e3⟩ := hDr h2 (by omega) (m := 2) (by decide) (by decide)
            have e3 : f2 [.loc 0, .v (.int 2)] S2 = .ok (.v (.int (j2 : Int))) S3 := e3
            simp! only [ρ0, hi, decide_true, if_true, e2, hw1, e3]
            exact nx1_next ⟨rfl, r + (j : Int), w - (j2 : Int), by omega, by omega, h3, rfl⟩
          · simp! only [ρ0, hi, decide_true, if_true, e2, hw1, if_false]
            exact nx1_next ⟨rfl, r + (j : Int), 0, by omega, by omega, h2.mono (by omega), rfl⟩
        · simp! only [ρ0, hi, decide_false, if_false]
          exact nx1_next ⟨rfl, r, w, hr0, hw0, h1.mono (by omega), rfl⟩
      rintro ρ T S2 ⟨rfl, x, y, hx, hy, h2, rfl⟩
      refine seq_mid (fun o => nexts o _) (fun ρ T S' => T = [] ∧ ∃ y : Int, 0 ≤ y ∧ St (q + 25) k r w S' ∧ ρ = ρ0 (some (.v (.int (i : Int)))) (some (.v (.int x))) (some (.v (.int y))) a7 a8 none) ?_ ?_
      · by_cases hi : (i : Int) = 2
        · obtain ⟨z, S3, hz, h3, e3⟩ := hSz h2 (by omega)
          simp! only [ρ0, hi, decide_true, if_true, e3]
          exact nx1_next ⟨rfl, z, hz.1, h3.mono (by omega), rfl⟩
        · simp! only [ρ0, hi, decide_false, if_false]
          exact nx1_next ⟨rfl, y, hy, h2.mono (by omega), rfl⟩
      rintro ρ T S3 ⟨rfl, y, hy, h3, rfl⟩
      have h4 := h3.app [stI x y]
      have mk := hMk hx hy [] S3
      have hnw : (S3 ++ [stI x y])[S3.length]? = some (stI x y) := snocI
      generalize hS4 : S3 ++ [stI x y] = S4 at h4 mk hnw
      generalize S3.length = j at mk hnw
      let ρ1 : Option Rv → Vn := fun a8 => ρ0 (some (.v (.int (i : Int)))) (some (.v (.int x))) (some (.v (.int y))) (some (.loc j)) a8 none
      refine seq_mid (fun o => nexts o _) (fun ρ T S' => S4 = S' ∧ T = [] ∧ ρ = ρ1 a8) ?_ ?_
      · simp! only [ρ0, mk]
        exact nx1_next ⟨rfl, rfl, rfl⟩
      rintro ρ T _ ⟨rfl, rfl, rfl⟩
      have g1 := cmI_l h4.get hnw (hLe h4.get hnw)
      have g2 := cmI_l hnw h4.get (hLe hnw h4.get)
      have g3 := cmI_l h4.get hnw (hEq h4.get hnw)
      have g4 := neJ_l h4.get hnw (hEq h4.get hnw)
      have and2 : ∀ (p q : Bool) (m1 m2 : EM Rv) (ρ : Vn) (T S : Sto), m1 ρ T S = .ok (.v (.bool p)) T S → m2 ρ T S = .ok (.v (.bool q)) T S → andV m1 m2 ρ T S = .ok (.v (.bool (p && q))) T S := fun p q m1 m2 ρ T S e1 e2 => by
        cases p
        · simp! only [e1]
          rfl
        · simp! only [e1, e2]
          rfl
      refine seq_mid (fun o => nexts o _) (fun ρ T S' => S4 = S' ∧ T = [] ∧ ρ = ρ1 a8) ?_ ?_
      · have ha := and2 (decide (r ≤ x)) (decide (w ≤ y)) (bin o_le (getV 2) (getV 5)) (bin o_le (getV 3) (getV 6)) (ρ1 a8) [] S4 (by simp! only [ρ1, ρ0]) (by simp! only [ρ1, ρ0])
        generalize andV (bin o_le (getV 2) (getV 5)) (bin o_le (getV 3) (getV 6)) = am at ha ⊢
        simp only [ρ1, ρ0] at ha
        simp! only [ρ1, ρ0, g1, ha, hSb, beq_self_eq_true]
        exact nx1_next ⟨rfl, rfl, rfl⟩
      rintro ρ T _ ⟨rfl, rfl, rfl⟩
      refine seq_mid (fun o => nexts o _) (fun ρ T S' => S4 = S' ∧ T = [] ∧ ρ = ρ1 a8) ?_ ?_
      · have ha := and2 (decide (x ≤ r)) (decide (y ≤ w)) (bin o_le (getV 5) (getV 2)) (bin o_le (getV 6) (getV 3)) (ρ1 a8) [] S4 (by simp! only [ρ1, ρ0]) (by simp! only [ρ1, ρ0])
        generalize andV (bin o_le (getV 5) (getV 2)) (bin o_le (getV 6) (getV 3)) = am at ha ⊢
        simp only [ρ1, ρ0] at ha
        simp! only [ρ1, ρ0, g2, ha, hSb, beq_self_eq_true]
        exact nx1_next ⟨rfl, rfl, rfl⟩
      rintro ρ T _ ⟨rfl, rfl, rfl⟩
      refine seq_mid (fun o => nexts o _) (fun ρ T S' => S4 = S' ∧ T = [] ∧ ρ = ρ1 (some (.v (.bool (decide (r = x) && decide (w = y)))))) ?_ ?_
      · have ha := and2 (decide (r = x)) (decide (w = y)) (bin o_eq (getV 2) (getV 5)) (bin o_eq (getV 3) (getV 6)) (ρ1 a8) [] S4 (by simp! only [ρ1, ρ0]) (by simp! only [ρ1, ρ0])
        generalize andV (bin o_eq (getV 2) (getV 5)) (bin o_eq (getV 3) (getV 6)) = am at ha ⊢
        simp only [ρ1, ρ0] at ha
        simp! only [ρ1, ρ0, ha]
        exact nx1_next ⟨rfl, rfl, rfl⟩
      rintro ρ T _ ⟨rfl, rfl, rfl⟩
      generalize (decide (r = x) && decide (w = y)) = al at g3 g4
      have hnot : ∀ T S, notV (getV 8) (ρ1 (some (.v (.bool al)))) T S = .ok (.v (.bool (!al))) T S := fun T S => by
        simp! only [ρ1, ρ0]
      simp only [ρ1, ρ0] at hnot
      simp! only [ρ1, ρ0, g3, g4, hnot, hSb, beq_self_eq_true]
      exact nexts_next ⟨rfl, h4, _, _, _, _, _, rfl⟩
    · rintro ρ T S1 ⟨rfl, h1, a4, a5, a6, a7, a8, rfl⟩
      rw [List.length_range] at h1
      exact nx1_next ⟨rfl, h1, _, _, _, _, _, rfl⟩
  rintro ρ T S1 ⟨rfl, h1, a4, a5, a6, a7, a8, rfl⟩
  let xs : List D := [.tuple [.int r, .int w], .list [.int r, .int w], .none, .int r, .str (toldT r w), .bool true, .tuple []]
  refine seq_mid P (fun ρ T S' => S1 = S' ∧ T = [] ∧ ρ = ρ0 a4 a5 a6 a7 a8 (some (.v (.list xs)))) ?_ ?_
  · have hTo := told_em hr.nm hw.nm (ρ0 a4 a5 a6 a7 a8 none) 2 3 [] S1 rfl rfl
    generalize bin o_add (bin o_add (bin o_add (cst (.str (Str.ofString "right "))) (callM c_str (consA (getV 2) nilA))) (cst (.str (Str.ofString ", wrong ")))) (callM c_str (consA (getV 3) nilA)) = em at hTo ⊢
    simp only [ρ0] at hTo
    simp! only [ρ0, hTo]
    exact nx1_next ⟨rfl, rfl, rfl⟩
  rintro ρ T _ ⟨rfl, rfl, rfl⟩
  have hc : ∀ T, compD (tgName 7) (orM (asB (bin (cmI (Str.ofString "Standing") f5) (getV 1) (getV 7))) (notM (asB (bin (neJ (Str.ofString "Standing") f5) (getV 1) (getV 7))))) (getV 7) (ρ0 a4 a5 a6 none a8 (some (.v (.list xs)))) xs T S1 = .ok [] T S1 := fun T => by
    have := comp_enc (g := tgName 7) (tests := orM (asB (bin (cmI (Str.ofString "Standing") f5) (getV 1) (getV 7))) (notM (asB (bin (neJ (Str.ofString "Standing") f5) (getV 1) (getV 7))))) (elt := getV 7) (ρ := ρ0 a4 a5 a6 none a8 (some (.v (.list xs)))) (T := T) (S := S1) (enc := fun d : D => d) (fun _ => false) (fun d => d) (xs := xs) (fun d hd => ⟨ρ0 a4 a5 a6 (some (.v d)) a8 (some (.v (.list xs))), rfl, by
      have q1 := cmI_v h1.get (hEd d S1)
      have q2 := neJ_v h1.get (hEd d S1)
      simp! only [ρ0, q1, q2], fun z => (nomatch z)⟩)
    rw [List.map_id'] at this
    rw [this]
    rfl
  simp only [ρ0] at hc
  simp! only [ρ0, hc]
  exact ⟨S1, h1.mono (by omega), rfl⟩
end RB.Law
end
/-! text REv21 -/
section
set_option Elab.async false
set_option linter.all false
set_option maxRecDepth 100000
set_option maxHeartbeats 4000000
/-! REv21: equations: lists made in the shared store, pulled out of it; a + b as an own list. -/
namespace RB
open PySem PySem.Spec PyProof.Rows L2
end RB
end
/-! text RLockF -/
section
set_option Elab.async false
set_option linter.all false
set_option maxRecDepth 100000
set_option maxHeartbeats 4000000
/-! RLockF: f(d), d a dict that changes no more, locked as long; f looks at nothing else. -/
namespace RB
open PySem PySem.Spec PyProof.Rows L2
end RB
end
/-! text RLkd -/
section
set_option Elab.async false
set_option linter.all false
set_option maxRecDepth 100000
set_option maxHeartbeats 4000000
/-! RLkd: a dict of the shared store that is locked while an expression runs; for k, v in d.items() on such a dict. -/
namespace RB
open PySem PySem.Spec PyProof.Rows L2
end RB
end
/-! text RPush -/
section
set_option Elab.async false
set_option linter.all false
set_option maxRecDepth 100000
set_option maxHeartbeats 4000000
/-! RPush: the last thing of one's own, a list or a dict with text keys, becomes a thing of the shared store. -/
namespace RB
open PySem PySem.Spec PyProof.Rows L2
def pushO : Ob → Bool
  | .lst _ => true
  | .dic _ => true
  | _ => false
section
variable {K : PySem.W.Frag} [WC K] {G H G0 H0 : Hp} {L M L0 M0 : List Addr} {T S : Sto}
theorem ROb.pushO {L M L' M' : List Addr} {a : Addr} {o : Ob} (hp : pushO o = true) (h : ROb K L M G H a o) : ROb K L' M' G H a o := by
  cases o with
  | lst ds => exact h
  | dic kvs => exact h
  | _ => cases hp
theorem Fits.push {n : Nat} {a : Addr} {o : Ob} (f : Fits K G H L M T S) (x : Ext G0 H0 L0 M0 G H L M) (hn : n + 1 = T.length) (ha : M[n]? = some a) (h0 : M0.length ≤ n) (hT : (T.take n).all plainO = true) (hp : pushO o = true) (ho : T[n]? = some o) :
    Ext G0 H0 L0 M0 G H (L ++ [a]) (M.take n) ∧ Fits K G H (L ++ [a]) (M.take n) (T.take n) (S ++ [o]) := by
  have sz := f.lenM
  have eM : M = M.take n ++ [a] := by
    have h1 : n < M.length := by omega
    have h2 : M = M.take n ++ M.drop n := (List.take_append_drop n M).symm
    rw [List.drop_eq_getElem_cons h1, List.drop_eq_nil_of_le (by omega : M.length ≤ n + 1)] at h2
    rw [List.getElem?_eq_getElem h1] at ha
    injection ha with ha
    rw [ha] at h2
    exact h2
  have mp0 : M0 <+: M.take n := by
    obtain ⟨t, ht⟩ := x.mp
    refine ⟨t.take (n - M0.length), ?_⟩
    rw [← ht, List.take_append, List.take_of_length_le h0]
  have nd := f.nd
  rw [eM] at nd
  have pm : (L ++ (M.take n ++ [a])).Perm (L ++ [a] ++ M.take n) := by
    rw [List.append_assoc]
    exact List.Perm.append_left _ List.perm_append_comm
  have nd2 := pm.nodup_iff.mp nd
  have naM : a ∉ M.take n := fun z => by
    rw [List.nodup_append] at nd2
    exact nd2.2.2 a (List.mem_append_right _ List.mem_cons_self) a z rfl
  have aM : a ∈ M := List.mem_of_getElem? ha
  refine ⟨⟨x.gm, x.lp.trans (List.prefix_append L [a]), mp0, x.keep, x.dom, x.gn, fun b hb => ?_, fun b hb => x.mn b (by rw [eM]; exact List.mem_append_left _ hb)⟩,
    ⟨f.sub, nd2, by rw [List.length_append, List.length_append, f.lenL]; rfl, by rw [List.length_take, List.length_take]; omega, fun k b q e1 e2 => ?_, fun k b q e1 e2 => ?_, f.tbs⟩⟩
  · rcases List.mem_append.mp hb with z | z
    · exact x.ln b z
    · rw [List.mem_singleton] at z
      subst z
      rcases x.mn b aM with z | z
      · exact absurd (mp0.subset z) naM
      · exact .inr z
  · by_cases hk : k < L.length
    · rw [List.getElem?_append_left hk] at e1
      rw [List.getElem?_append_left (by rw [← f.lenL]; exact hk)] at e2
      exact (f.obL k b q e1 e2).mono2 (List.prefix_append L [a]) (List.prefix_refl _) (Same.refl G) (fun z => z) fun _ z => z
    · have h2 := lt_of_get e1
      rw [List.length_append, List.length_singleton] at h2
      have hz : k = L.length := by omega
      subst hz
      rw [List.getElem?_concat_length] at e1
      rw [f.lenL, List.getElem?_concat_length] at e2
      cases e1; cases e2
      exact ROb.pushO hp (f.obM n a o ha ho)
  · have hk : k < n := by
      have := lt_of_get e1
      rw [List.length_take] at this
      omega
    rw [List.getElem?_take, if_pos hk] at e1 e2
    refine ROb.plainO ?_ (f.obM k b q e1 e2)
    refine List.all_eq_true.mp hT q (List.mem_iff_getElem?.mpr ⟨k, ?_⟩)
    rw [List.getElem?_take, if_pos hk]
    exact e2
end
end RB
end
/-! text RPull2 -/
section
set_option Elab.async false
set_option linter.all false
set_option maxRecDepth 100000
set_option maxHeartbeats 4000000
/-! RPull2: as RPull; instances may stand in the store, as long as they hold nothing of what is taken away. -/
namespace RB
open PySem PySem.Spec PyProof.Rows L2
end RB
end
/-! text RSetd -/
section
set_option Elab.async false
set_option linter.all false
set_option maxRecDepth 100000
set_option maxHeartbeats 4000000
/-! RSetd: d.setdefault(k, v), d a dict of one's own whose keys are tuples of any depth. -/
namespace RB
open PySem PySem.Spec PyProof.Rows L2
/-! ### the mirror -/
end RB
end
/-! text RTryN0 -/
section
set_option Elab.async false
set_option linter.all false
set_option maxRecDepth 100000
set_option maxHeartbeats 4000000
/-! RTryN0: try: .. except C: .., where the body is shown to raise nothing (the suite, any suite, is never run). -/
namespace RB
open PySem PySem.Spec PyProof.Rows L2
end RB
end
/-! text RLenK -/
section
set_option Elab.async false
set_option linter.all false
set_option maxRecDepth 100000
set_option maxHeartbeats 4000000
/-! RLenK: len(d), d a dict whose keys are texts or whole numbers. -/
namespace RB
open PySem PySem.Spec PyProof.Rows L2
end RB
end
/-! text RNoneIn -/
section
set_option Elab.async false
set_option linter.all false
set_option maxRecDepth 100000
set_option maxHeartbeats 4000000
/-! RNoneIn: k in d, where k may be None. -/
namespace RB
open PySem PySem.Spec PyProof.Rows L2
end RB
end
/-! text REv22 -/
section
set_option Elab.async false
set_option linter.all false
set_option maxRecDepth 100000
set_option maxHeartbeats 4000000
/-! REv22: equations for dicts of the shared store: locked, made shared, setdefault, None in d, len. -/
namespace RB
open PySem PySem.Spec PyProof.Rows L2
end RB
end
/-! text A35g -/
section
set_option Elab.async false
set_option linter.all false
set_option maxRecDepth 100000
set_option maxHeartbeats 4000000
namespace RB.Law
open PySem PySem.Spec PyProof.Rows L2 RB
/-! ### refusals -/
def usD (w : Str) : D := .tuple [.str (Str.ofString "usable"), .str w, .int (-1)]
theorem hear_us (w : Str) (S : Sto) : hearG 4 1 hcs__law_said (exU w) S = .ok (.v (usD w)) S := by rfl
theorem said_no {m : EM Rv} {ρ : Vn} {T S S' : Sto} {w : Str} (h : m ρ T S = .exn (exU w) T S') : heardG (Str.ofString "told") 4 1 hcs__law_said m ρ T S = .ok (.v (usD w)) T S' := by
  unfold heardG
  rw [h]
  show (match hearG 4 1 hcs__law_said (exU w) S' with
    | .ok r S2 => Res.ok r T S2
    | _ => .bad) = _
  rw [hear_us]
theorem resOf_no (T S : Sto) (x : Exn) : resOf T (.exn x S) = .exn x T S := rfl
theorem mk_no1T {d x : D} (h : d ∈ oddL) (T S : Sto) : makeR (Str.ofString "Standing") f_Standing___init__ [.v d, .v x] T S = .exn (exU (Str.ofString "right")) T (S ++ [st0]) := by
  have a := st_init1 (x := x) h S.length (S ++ [.ins (Str.ofString "Standing") []])
  generalize f_Standing___init__ = fi at a
  simp! only [ev_makeR, mkR_s, a, mkF_exn]
  rfl
theorem mk_no2T {r : Int} (hr : 0 ≤ r) {d : D} (h : d ∈ oddL) (T S : Sto) : makeR (Str.ofString "Standing") f_Standing___init__ [.v (.int r), .v d] T S = .exn (exU (Str.ofString "wrong")) T (S ++ [st0]) := by
  have a := st_init2 hr h S.length (S ++ [.ins (Str.ofString "Standing") []])
  generalize f_Standing___init__ = fi at a
  simp! only [ev_makeR, mkR_s, a, mkF_exn]
  rfl
theorem refusals_eq {n k : Nat} {r w : Int} {S : Sto} (h : St n k r w S) (hn : n < 700000000) (hr : Sz r) : ∃ S', St (n + 2) k r w S' ∧ f__law_are_refusals_right [.loc 0, .loc k, .v (.int r)] S = .ok (.v (.bool true)) S' := by
  let P : Out → Prop := fun o => ∃ S', St (n + 2) k r w S' ∧ fnRun o = .ok (.v (.bool true)) S'
  unfold f__law_are_refusals_right
  rw [fn_run (ρ := [some (.loc 0), some (.loc k), some (.v (.int r)), none, none, none, none]) rfl]
  show P _
  unfold m__law_are_refusals_right
  obtain ⟨d, S1, hd, h1, e1⟩ := odds_eq h (by omega)
  obtain ⟨d2, S2, hd2, h2, e2⟩ := odds_eq h1 (by omega)
  have m1 := fun x T S => mk_no1T (x := x) hd T S
  have m2 := fun T S => mk_no2T hr.1 hd T S
  have c1 := fun {k : Nat} (S : Sto) => st_call_no (k := k) hd S
  have c2 := fun {k : Nat} (S : Sto) => st_add_no (k := k) hd S
  have c3 := fun {k : Nat} (S : Sto) => st_radd_no (k := k) hd S
  have c4 := st_open_no hd
  generalize f__law_odd = f1 at e1 e2 ⊢
  generalize f_Standing___init__ = f2 at m1 m2 ⊢
  generalize f_Standing___call__ = f3 at c1 ⊢
  generalize f_Standing___add__ = f4 at c2 ⊢
  generalize f_Standing___radd__ = f5 at c3 ⊢
  generalize f_Standing_open_at = f6 at c4 ⊢
  let due : List D := [usD (Str.ofString "right"), usD (Str.ofString "right"), usD (Str.ofString "wrong"), usD (Str.ofString "budget"), usD (Str.ofString "other"), usD (Str.ofString "other"), usD (Str.ofString "n")]
  let ρ0 : Option Rv → Option Rv → Vn := fun a3 a4 => [some (.loc 0), some (.loc k), some (.v (.int r)), a3, a4, some (.v d), some (.v d2)]
  refine seq_mid P (fun ρ T S' => S2 = S' ∧ T = [] ∧ ρ = ρ0 none none) ?_ ?_
  · simp! only [e1, e2]
    exact nx1_next ⟨rfl, rfl, rfl⟩
  rintro ρ T _ ⟨rfl, rfl, rfl⟩
  refine seq_mid P (fun ρ T S' => S2 = S' ∧ T = [] ∧ ρ = ρ0 (some (.v (.list (due.take 4)))) none) ?_ ?_
  · simp! only [ρ0]
    exact nx1_next ⟨rfl, rfl, rfl⟩
  rintro ρ T _ ⟨rfl, rfl, rfl⟩
  refine seq_mid P (fun ρ T S' => S2 = S' ∧ T = [] ∧ ρ = ρ0 (some (.v (.list due))) none) ?_ ?_
  · have hc : (4 + 3 ≤ 16777216) := by decide
    simp! only [ρ0, due, List.take]
    exact nx1_next ⟨rfl, rfl, rfl⟩
  rintro ρ T _ ⟨rfl, rfl, rfl⟩
  let ρ1 : Vn := ρ0 (some (.v (.list due))) (some (.own 0))
  have e0 : heardG (Str.ofString "told") 4 1 hcs__law_said (callM (makeR (Str.ofString "Standing") f2) (consA (getV 5) (consA (getV 2) nilA))) (ρ0 (some (.v (.list due))) none) [] S2 = .ok (.v (usD (Str.ofString "right"))) [] (S2 ++ [st0]) := said_no (by simp! only [ρ0, m1])
  have h3 := h2.app [st0]
  refine seq_mid P (fun ρ T S' => S2 ++ [st0] = S' ∧ T = [.lst (due.take 1)] ∧ ρ = ρ1) ?_ ?_
  · simp! only [e0]
    exact nx1_next ⟨rfl, rfl, rfl⟩
  rintro ρ T _ ⟨rfl, rfl, rfl⟩
  have step : ∀ {m : EM Rv} {w : Str} {T0 : List D} {S S' : Sto} {ms}, T0.length ≤ 10 → m ρ1 [.lst T0] S = .exn (exU w) [.lst T0] S' → (∀ ρ' T' S'', (S' = S'' ∧ T' = [.lst (T0 ++ [usD w])] ∧ ρ' = ρ1) → P (ms ρ' T' S'')) → P (seqS (dropS (methM isL appendR (getV 4) (consA (heardG (Str.ofString "told") 4 1 hcs__law_said m) nilA))) ms ρ1 [.lst T0] S) := fun {m w T0 S S' ms} hl hm hk => by
    have e := said_no hm
    generalize heardG (Str.ofString "told") 4 1 hcs__law_said m = hg at e ⊢
    refine seq_mid P (fun ρ T S'' => S' = S'' ∧ T = [.lst (T0 ++ [usD w])] ∧ ρ = ρ1) ?_ hk
    simp only [ρ1, ρ0] at e
    simp! only [ρ1, ρ0, e, show T0.length < 16777216 by omega]
    exact nx1_next ⟨rfl, rfl, rfl⟩
  refine step (S' := S2 ++ [st0] ++ [st0]) (w := Str.ofString "right") (by show 1 ≤ 10; decide) (by simp! only [ρ1, ρ0, m1]) ?_
  rintro ρ T _ ⟨rfl, rfl, rfl⟩
  refine step (S' := S2 ++ [st0] ++ [st0] ++ [st0]) (w := Str.ofString "wrong") (by show 2 ≤ 10; decide) (by
    have hp2 : ∀ a b : Rv, pick [1, 0] [a, b] = [b, a] := fun a b => rfl
    simp! only [ρ1, ρ0, ev_frz, kFrz_a, frzR_s, ev_prd, kPr1_a, kPr2_a, prdR1_s, prdR2_s, ev_asgP, kAsP_a, ev_dkeys, kDk_a, dic_k, dic_loc, toA_frk, retR_frd, retR_prd, ev_dputX, kPx1_a, kPx2_a, kPx3_a, dpxR_o, dpxR_l, dpx1_s, dpx2_s, ev_rep, ev_revL, kRvL_a, rvLR_l, ev_min, minO_l, ev_sum, sumO_l, ev_sortL, kSrL_a, srLR_l, ev_permA, kPm_a, pick_021, pick_01, ty_int, ty_bool, ty_tup, ty_str, isiO_s, keys_dK, hp2, m2]) ?_
  rintro ρ T _ ⟨rfl, rfl, rfl⟩
  have h5 := (h3.app [st0]).app [st0]
  generalize hS5 : S2 ++ [st0] ++ [st0] ++ [st0] = S5 at h5
  have i5 := insI h5.get
  refine step (S' := S5) (w := Str.ofString "budget") (by show 3 ≤ 10; decide) (by simp! only [ρ1, ρ0, ev_self, kSf1_a, kSf2_a, i5, ev_argR, agR_s, c1, resOf_no]) ?_
  rintro ρ T _ ⟨rfl, rfl, rfl⟩
  refine step (S' := S5) (w := Str.ofString "other") (by show 4 ≤ 10; decide) (by simp! only [ρ1, ρ0, binI_s f4 h5.get, ev_argR, agR_s, c2, resOf_no]) ?_
  rintro ρ T _ ⟨rfl, rfl, rfl⟩
  refine step (S' := S5) (w := Str.ofString "other") (by show 5 ≤ 10; decide) (by simp! only [ρ1, ρ0, binRI_s f5 h5.get, ev_argR, agR_s, c3, resOf_no]) ?_
  rintro ρ T _ ⟨rfl, rfl, rfl⟩
  refine step (S' := S5) (w := Str.ofString "n") (by show 6 ≤ 10; decide) (by simp! only [ρ1, ρ0, c4]) ?_
  rintro ρ T _ ⟨rfl, rfl, rfl⟩
  refine ⟨S5, h5.mono (by omega), ?_⟩
  rfl
end RB.Law
end
/-! text L35z -/
section
set_option Elab.async false
set_option linter.all false
set_option maxRecDepth 100000
set_option maxHeartbeats 4000000
namespace RB.Law
open PySem PySem.Spec PyProof.Rows L2 RB
theorem law_true (ns : List Int) (h : ns.length ≤ 63) : ∃ S', f_law [.scr ns] [] = .ok (.v (.bool true)) S' := by
  let P : Out → Prop := fun o => ∃ S', fnRun o = .ok (.v (.bool true)) S'
  unfold f_law
  rw [fn_run (ρ := [some (.scr ns), none, none, none, none, none]) rfl]
  show P _
  unfold m_law
  have hF := feed_eq h
  have hSz := fun {n : Nat} {S : Sto} (F : Feed n S) (hn : n < 800000000) => size_eq F hn
  have hD : DrT f__law_draw := drT
  have hMk := fun {r w : Int} (hr : 0 ≤ r) (hw : 0 ≤ w) (T S : Sto) => st_make hr hw T S
  have hIs := fun {k : Nat} {r w : Int} {S : Sto} (hr : Nm r) (hw : Nm w) (h : S[k]? = some (stI r w)) => is_eq hr hw h
  have hAn := fun {n k : Nat} {r w : Int} {S : Sto} (h : St n k r w S) (hn : n < 700000000) (hr : Sz r) (hw : Sz w) => answers_eq h hn hr hw
  have hSu := fun {n k : Nat} {r w : Int} {S : Sto} (h : St n k r w S) (hn : n < 700000000) (hr : Sz r) (hw : Sz w) => sums_eq h hn hr hw
  have hPa := fun {n k : Nat} {r w : Int} {S : Sto} (h : St n k r w S) (hn : n < 700000000) (hr : Sz r) (hw : Sz w) => pairs_eq h hn hr hw
  have hRe := fun {n k : Nat} {r w : Int} {S : Sto} (h : St n k r w S) (hn : n < 700000000) (hr : Sz r) => refusals_eq h hn hr
  generalize f__law_feed = f1 at hF ⊢
  generalize f__law_size = f2 at hSz ⊢
  generalize f__law_draw = f3 at hD ⊢
  generalize f_Standing___init__ = f4 at hMk ⊢
  generalize f__law_is = f5 at hIs ⊢
  generalize f__law_are_answers_right = f6 at hAn ⊢
  generalize f__law_are_sums_right = f7 at hSu ⊢
  generalize f__law_are_pairs_right = f8 at hPa ⊢
  generalize f__law_are_refusals_right = f9 at hRe ⊢
  obtain ⟨S0, e0, F0⟩ := hF
  let ρ0 : Option Rv → Option Rv → Option Rv → Option Rv → Vn := fun a2 a3 a4 a5 => [some (.scr ns), some (.loc 0), a2, a3, a4, a5]
  refine seq_mid P (fun ρ T S' => S0 = S' ∧ T = [] ∧ ρ = ρ0 none none none none) ?_ ?_
  · simp! only [e0]
    exact nx1_next ⟨rfl, rfl, rfl⟩
  rintro ρ T _ ⟨rfl, rfl, rfl⟩
  refine seq_mid P (fun ρ T S' => T = [] ∧ ∃ a2 a3 a4 a5, ρ = ρ0 a2 a3 a4 a5) ?_ ?_
  · have e3 : ∀ T S, rngR [.v (.int 3)] T S = .ok ((List.range 3).map fun (i : Nat) => PyData.int (i : Int)) T S := fun T S => rfl
    simp! only [ρ0, e3]
    refine for_end (fun o => nx1 o _) (xs := List.range 3) (enc := fun (i : Nat) => PyData.int (i : Int)) (fun pre ρ T S' => T = [] ∧ Feed (300 * pre.length) S' ∧ ∃ a2 a3 a4 a5, ρ = ρ0 a2 a3 a4 a5) ⟨rfl, F0, _, _, _, _, rfl⟩ ?_ ?_
    · rintro pre i post ρ T S1 hp ⟨rfl, F1, a2, a3, a4, a5, rfl⟩
      have hpl := congrArg List.length hp
      rw [List.length_range, List.length_append, List.length_cons] at hpl
      refine ⟨_, rfl, ?_⟩
      rw [List.length_append, List.length_singleton]
      generalize hq : 300 * pre.length = q at F1
      have hq2 : 300 * (pre.length + 1) = q + 300 := by omega
      rw [hq2]
      have hqn : q < 1000 := by omega
      obtain ⟨r, S2, hr, F2, _, e2⟩ := hSz F1 (by omega)
      obtain ⟨w0, S3, hw0, F3, _, e3⟩ := hSz F2 (by omega)
      obtain ⟨j, S4, hj, F4, _, e4⟩ := hD F3 (by omega) (m := 5) (by decide) (by decide)
      have e4 : f3 [.loc 0, .v (.int 5)] S3 = .ok (.v (.int (j : Int))) S4 := e4
      refine seq_mid (fun o => nexts o _) (fun ρ T S' => S3 = S' ∧ T = [] ∧ ρ = ρ0 (some (.v (.int (i : Int)))) (some (.v (.int r))) (some (.v (.int w0))) a5) ?_ ?_
      · simp! only [ρ0, e2, e3]
        exact nx1_next ⟨rfl, rfl, rfl⟩
      rintro ρ T _ ⟨rfl, rfl, rfl⟩
      refine seq_mid (fun o => nexts o _) (fun ρ T S' => S4 = S' ∧ T = [] ∧ ∃ w : Int, Sz w ∧ ρ = ρ0 (some (.v (.int (i : Int)))) (some (.v (.int r))) (some (.v (.int w))) a5) ?_ ?_
      · by_cases hz : (j : Int) = 0
        · simp! only [ρ0, e4, hz, decide_true, if_true]
          exact nx1_next ⟨rfl, rfl, r, hr, rfl⟩
        · simp! only [ρ0, e4, hz, decide_false, if_false]
          exact nx1_next ⟨rfl, rfl, w0, hw0, rfl⟩
      rintro ρ T _ ⟨rfl, rfl, w, hw, rfl⟩
      have mk := hMk hr.1 hw.1 [] S4
      have st : St (q + 41) S4.length r w (S4 ++ [stI r w]) := ⟨(F4.mono (by omega)).app _, At0.new F4 _⟩
      generalize hS5 : S4 ++ [stI r w] = S5 at mk st
      generalize S4.length = k at mk st
      let ρ1 : Vn := ρ0 (some (.v (.int (i : Int)))) (some (.v (.int r))) (some (.v (.int w))) (some (.loc k))
      refine seq_mid (fun o => nexts o _) (fun ρ T S' => S5 = S' ∧ T = [] ∧ ρ = ρ1) ?_ ?_
      · have hp2 : ∀ a b : Rv, pick [1, 0] [a, b] = [b, a] := fun a b => rfl
        by_cases hi : 0 < (i : Int)
        · simp! only [ρ0, hi, decide_true, if_true, mk]
          exact nx1_next ⟨rfl, rfl, rfl⟩
        · simp! only [ρ0, ev_frz, kFrz_a, frzR_s, ev_prd, kPr1_a, kPr2_a, prdR1_s, prdR2_s, ev_asgP, kAsP_a, ev_dkeys, kDk_a, dic_k, dic_loc, toA_frk, retR_frd, retR_prd, ev_dputX, kPx1_a, kPx2_a, kPx3_a, dpxR_o, dpxR_l, dpx1_s, dpx2_s, ev_rep, ev_revL, kRvL_a, rvLR_l, ev_min, minO_l, ev_sum, sumO_l, ev_sortL, kSrL_a, srLR_l, ev_permA, kPm_a, pick_021, pick_01, ty_int, ty_bool, ty_tup, ty_str, isiO_s, keys_dK, hi, decide_false, if_false, hp2, mk]
          exact nx1_next ⟨rfl, rfl, rfl⟩
      rintro ρ T _ ⟨rfl, rfl, rfl⟩
      have i1 := hIs hr.nm hw.nm st.get
      obtain ⟨S6, st6, e6⟩ := hAn st (by omega) hr hw
      obtain ⟨S7, st7, e7⟩ := hSu st6 (by omega) hr hw
      obtain ⟨S8, st8, e8⟩ := hPa st7 (by omega) hr hw
      obtain ⟨S9, st9, e9⟩ := hRe st8 (by omega) hr
      have i9 := hIs hr.nm hw.nm st9.get
      refine seq_mid (fun o => nexts o _) (fun ρ T S' => S6 = S' ∧ T = [] ∧ ρ = ρ1) ?_ ?_
      · simp! only [ρ1, ρ0, i1, e6]
        exact nx1_next ⟨rfl, rfl, rfl⟩
      rintro ρ T _ ⟨rfl, rfl, rfl⟩
      refine seq_mid (fun o => nexts o _) (fun ρ T S' => S8 = S' ∧ T = [] ∧ ρ = ρ1) ?_ ?_
      · simp! only [ρ1, ρ0, e7, e8]
        exact nx1_next ⟨rfl, rfl, rfl⟩
      rintro ρ T _ ⟨rfl, rfl, rfl⟩
      simp! only [ρ1, ρ0, e9, i9]
      exact nexts_next ⟨rfl, st9.f.mono (by omega), _, _, _, _, rfl⟩
    · rintro ρ T S1 ⟨rfl, _, a2, a3, a4, a5, rfl⟩
      exact nx1_next ⟨rfl, _, _, _, _, rfl⟩
  rintro ρ T S1 ⟨rfl, a2, a3, a4, a5, rfl⟩
  simp! only [ρ0]
  exact ⟨_, rfl⟩
end RB.Law
end
/-! text K35all_head -/
section
set_option Elab.async false
set_option linter.all false
set_option maxRecDepth 100000
set_option maxHeartbeats 0
namespace RB.Law
open PySem PySem.Spec PyProof.Rows L2 RB
end RB.Law
open PySem PySem.W PySem.Calls PyProof.Rows
theorem PySem.Challenge.cw_rebuiltby_k35_standings_as_values_holds : PySem.Challenge.rw_rebuiltby_k35_standings_as_values.Holds := by
  w_on; o_law
  refine HandSHeadRun.head_any (r := OpenLaw.row PySem.Challenge.rw_rebuiltby_k35_standings_as_values) (q := view (OpenLaw.row PySem.Challenge.rw_rebuiltby_k35_standings_as_values).prog [29]) (H := RB.Law.hk) (ob := RB.Law.ob) (M := 6000) (loose := RB.Law.loose) (d := HandSHeadRun.topDef (OpenLaw.row PySem.Challenge.rw_rebuiltby_k35_standings_as_values).prog 29) (kwd := []) RB.Law.ob_eq
    (by kernel_rfl) (fun s => by kernel_rfl) RB.Law.run (by kernel_rfl) (by kernel_rfl) (by kernel_rfl) (by rfl) (by first | assumption | decide +kernel) (by decide +kernel) ⟨rfl, rfl, rfl, rfl, rfl, by decide +kernel⟩ ?hw ?hc
  case hw => w_witness2
  case hc =>
    refine RB.walk_ofR (l := PySem.Challenge.rw_rebuiltby_k35_standings_as_values) (n := 63) (k := 28) (x := "_law_script") (CX := fun w => L2.CX (PySem.Challenge.rw_rebuiltby_k35_standings_as_values).prog w) rfl (by decide) (by kernel_rfl) ⟨rfl, by decide, by decide⟩ ?F (fun w => RB.cx_none _ w)
    intro w mg fa h Y G hmg0
    obtain ⟨K, KX, cM⟩ := Y
    have c := cM.e.r
    have hmg : mg ("law" : PySem.Str) = some (.ref fa) := by
      have e : (HandSHeadRun.topDef (OpenLaw.row PySem.Challenge.rw_rebuiltby_k35_standings_as_values).prog 29).name = ("law" : PySem.Str) := by kernel_rfl
      rw [← e]
      exact hmg0
    letI : RB.WC K := ⟨w⟩
    obtain ⟨fd, hb, hF⟩ := RB.Law.facts (w := w) rfl KX G hmg cM
    exact ⟨K, KX, fd, RB.csOf K, _, c.empty, c.out, fun p hp => codeHd_of_K KX (c.hd p hp), hb, fun H a ns hl _ hH hS => RB.spF_true (RB.Law.law_true ns hl) hS (fun p hp => by
      obtain ⟨q, hq, e⟩ := RB.tt_cs hp
      rw [← e]
      exact hH q hq), hF⟩
end
end
