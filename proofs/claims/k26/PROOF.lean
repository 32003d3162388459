import PyProof.Rows.All
import Wide.All
import OpenK.AllK
import Wide.FinOn
import HandS.ExcCtx
import HandS.ExcInit
import HandS.Star
import HandS.WordsExc
import HandS.ForMost
import HandS.ForExc
import HandS.Wide
import HandS.HeadNt
import PyProof.ExcBaseAll.ValueError
import PyProof.InstNe
import HandS.Defaults
import HandS.IsInst
import HandS.TupLe
import HandS.Style
import HandS.Head0
import HandS.Head1
import HandS.Head2
import HandS.HeadEnd
import HandS.HeadHook1
import HandS.HeadHook2
import HandS.TupMul
import HandS.TupAny
import HandS.Zip
import HandS.Nested
import KE.KExcSuper
import HandS.ExcIs
import HandS.ExcField
import HandS.ExcOwn
import KE.KExcIs
import HandS.Text
import HandS.Codes
import HandS.Iter
import HandS.FStr
import KE.GoesMore
import KE.GoesEnum
import HandS.Property
import HandS.ClsMeth
import KE.KOpsOwn
import KE.KCallOwn
import HandS.DictComp
import KE.KDictDisplayH
import KE.KDictCopyH
import KE.KDictOf
import HandS.Deep
import HandS.DictTup
import HandS.Conv
import HandS.MakeKwOnly
import HandS.TryOnly
import KE.KEqNest
import PyProof.CompUse
import HandS.CallSlots
import KE.KRevSl
import PyProof.StrLawsIn
import HandS.TryMany
import HandS.HotCalls
import PyProof.StrBlock2
import KE.KDictItemsList
import PySem.Challenge.RW_lookstop_k26_tables_accepted_or_refused
set_option Elab.async false
set_option linter.all false
set_option maxRecDepth 100000
set_option maxHeartbeats 2000000
/-! what the head's run looks at: definitions alone, so that the run can stand first in the one-file text -/
namespace VS
open PySem PySem.Spec L2
def hasB (s a : Nat) : Bool := Nat.beq (Nat.land (Nat.shiftRight s a) 1) 1
def addB (s a : Nat) : Nat := Nat.lor s (Nat.shiftLeft 1 a)
def frN {α : Type} (n : Nat) (k : Nat → α) : α := match n with
  | 0 => k 0
  | m + 1 => k (m + 1)
def colR {α : Type} (k : Nat → List Addr → α) : List Addr → Nat → List Addr → α
  | [], seen, nx => k seen nx
  | r :: rs, seen, nx => match hasB seen r with
    | true => colR k rs seen nx
    | false => frN (addB seen r) fun s => colR k rs s (r :: nx)
def colA {α : Type} (g : Addr → Option Obj) (k : Nat → List Addr → α) : List Addr → Nat → List Addr → α
  | [], seen, nx => k seen nx
  | a :: as, seen, nx => match g a with
    | some o => colR (fun s n => colA g k as s n) (He.refsD o) seen nx
    | none => colA g k as seen nx
def rnd (g : Addr → Option Obj) : Nat → Nat → List Addr → List Addr → List Addr
  | 0, _, _, acc => acc.reverse
  | n + 1, seen, front, acc => colA g (fun s nx => rnd g n s nx (nx ++ acc)) front seen []
def asV (g : Addr → Option Obj) (n : Nat) : List Addr := rnd g n (addB (addB 0 mainGlobals) cStatics) [mainGlobals] [mainGlobals, cStatics]
/-- one error class with an __init__ of its own: name, the __init__, the fields -/
structure ErD where
  x : Str
  qual : Str
  params : Arguments
  body : List Stmt
  scope : Scope
  fs : List Str
abbrev InW : Type := Option (Str × Str × Arguments × FuncBody × Scope × Addr × List Str × Addr)
def iniW (K : PySem.W.Frag) (x : Str) : InW := match K.lookup (He.ma K (He.ga K x) "__init__") with
  | some ⟨_, _, .func fd, _⟩ => some (fd.name, fd.qualname, fd.params, fd.body, fd.scope, fd.globals, fd.closure.map (·.1), fd.builtins)
  | _ => none
def ErD.val (d : ErD) : InW := some ("__init__", d.qual, d.params, .stmts d.body, d.scope, mainGlobals, ["__class__"], builtinsNs)
def clsB (K : PySem.W.Frag) (C : Addr) : Bool := match K.lookup C with
  | some ⟨.type "type", _, .cls cd, sl⟩ => (match cd.mro, sl.toList with
    | .ref C' :: bm, [_, _, _, _, some (.builtin n), _] => C' == C && n == "ValueError.__new__" && !cd.hasDel && cd.hasDict && PySem.HandSPX.refsVE bm
    | _, _ => false)
  | _ => false
/-- what every error class must say -/
def excB (K : PySem.W.Frag) (C : Addr) : Bool := clsB K C && (He.eqO (PySem.W.findIn K (.ref C) "__setattr__") (some (some (.builtin "object.__setattr__"))) && (decide (PySem.W.subIn K (.ref C) (.type "BaseException") = some true) && (decide (PySem.W.typeIn K (.ref C) = some (.type "type")) && (PySem.W.keepIn K (.ref C) &&
  (He.eqO (PySem.W.findIn K (.ref C) "__getattribute__") (some (some (.builtin "BaseException.__getattribute__"))) && (He.eqO (PySem.W.findIn K (.ref C) "__getattr__") (some none) && (PySem.W.hasDictIn K C && (He.eqO (PySem.W.findIn K (.ref C) "__class__") (some (some (.builtin "object.__class__"))) &&
  (He.eqO (PySem.W.specialIn K (.builtin "object.__class__") "__get__") (some (some (.builtin "getset_descriptor.__get__"))) && (decide (PySem.W.takesIn K (.builtin "object.__class__") = some true) && decide (PySem.W.mroIn K C (.type "object") = some true)))))))))))
def codeB (file : Str) (K : PySem.W.Frag) (C : Addr) (qual : Str) (fd : FuncData) : Bool := match fd.code, fd.closure, fd.defaults with
  | .ref cda, [(_, cc)], .none => PySem.W.codeIn K (.ref cda) qual && ((match K.lookup cda with
      | some ⟨_, _, .fields vs, _⟩ => (match (vs[2]? : Option Value) with | some (Value.str f _) => file == f | _ => false)
      | _ => false) && (match K.lookup cc with
      | some ⟨_, _, .cell (some (.ref C')), _⟩ => C' == C
      | _ => false))
  | _, _, _ => false
def iniB (file : Str) (K : PySem.W.Frag) (d : ErD) : Bool := excB K (He.ga K d.x) && (He.eqO (PySem.W.findIn K (.ref (He.ga K d.x)) "__init__") (some (some (.ref (He.ma K (He.ga K d.x) "__init__")))) && (decide (PySem.W.typeIn K (.ref (He.ma K (He.ga K d.x) "__init__")) = some (.type "function")) &&
  ((PySem.W.clsIn K (He.ga K d.x)).isSome && (decide (PySem.W.mroIn K (He.ga K d.x) (.ref (He.ga K d.x)) = some true) && (He.eqO (PySem.W.nsIn K cStatics "thirdparty.any") (some none) && (He.eqO (PySem.W.ks_superIn K (He.ga K d.x) (He.ga K d.x) "__init__") (some (some (.builtin "ValueError.__init__"))) &&
  (decide (PySem.W.subIn K (.ref (He.ga K d.x)) (.type "ValueError") = some true) && (d.fs.all (fun f => He.eqO (PySem.W.findIn K (.ref (He.ga K d.x)) f) (some none)) && (match K.lookup (He.ma K (He.ga K d.x) "__init__") with
    | some ⟨_, _, .func fd, _⟩ => codeB file K (He.ga K d.x) d.qual fd
    | _ => false)))))))))
abbrev AlV : Type := He.AlD × (Bool × List InW)
def obsV (file : Str) (fa : List He.Fa) (fn : List He5.DefA) (es : List ErD) (ex : PySem.W.Frag → Bool) (K : PySem.W.Frag) : AlV := (He5.obsA fa fn K, ((es.all fun d => iniB file K d) && ex K, es.map fun d => iniW K d.x))
def valV (fn : List He5.DefA) (es : List ErD) : AlV := (He5.valA fn, (true, es.map ErD.val))
def SaysV (file : Str) (fa : List He.Fa) (fn : List He5.DefA) (es : List ErD) (ex : PySem.W.Frag → Bool) (K : PySem.W.Frag) : Prop := obsV file fa fn es ex K = valV fn es
def obsVG (n : Nat) (file : Str) (fa : List He.Fa) (fn : List He5.DefA) (es : List ErD) (ex : PySem.W.Frag → Bool) (g : Addr → Option Obj) : AlV := obsV file fa fn es ex (He.frG g (asV g n))
def hookV (n : Nat) (file : Str) (fa : List He.Fa) (fn : List He5.DefA) (es : List ErD) (ex : PySem.W.Frag → Bool) : PySem.W.Hook where
  α := AlV
  obs := fun s => obsVG n file fa fn es ex s.heap.get?
  val := fun _ => valV fn es
  says := fun _ h => ∃ K : PySem.W.Frag, K.In h ∧ SaysV file fa fn es ex K
  of := fun _ _ e => ⟨_, He.frG_in, e⟩
  keeps := fun _ _ _ ⟨K, hK, c⟩ k => ⟨K, PySem.W.Frag.In.keeps hK k, c⟩
theorem obsVG_eq {n : Nat} {file : Str} {fa : List He.Fa} {fn : List He5.DefA} {es : List ErD} {ex : PySem.W.Frag → Bool} {g : Addr → Option Obj} {s : Shared} (h : ∀ a, g a = s.heap.get? a) : obsVG n file fa fn es ex g = (hookV n file fa fn es ex).obs s := by
  have e : g = s.heap.get? := funext h
  rw [e] <;> rfl
/-- further words on the classes -/
abbrev Xa : Type := PySem.W.Frag → Bool
def Xa.exm (x y : Str) (b : Bool) : Xa := fun K => decide (PySem.W.exmOne K (.ref (He.ga K x)) (.ref (He.ga K y)) = some b)
def Xa.kit (x y : Str) (b : Bool) : Xa := fun K => decide (PySem.W.kitOne K (.ref (He.ga K x)) (.ref (He.ga K y)) = some b)
def Xa.kitT (x : Str) (T : String) (b : Bool) : Xa := fun K => decide (PySem.W.kitOne K (.ref (He.ga K x)) (.type T) = some b)
def Xa.exc (x : Str) : Xa := fun K => excB K (He.ga K x)
def Xa.tup (x : Str) (vs : List He.Dv) : Xa := fun K => He.tupB K x vs
def exOf (xs : List Xa) (K : PySem.W.Frag) : Bool := xs.all fun x => x K
def numB (K : PySem.W.Frag) (C : Addr) (nm : String) : Bool := PySem.W.selfFirst K C && ((match PySem.W.findIn K (.ref C) (dunderR nm) with
    | some none => true
    | some (some (.ref _)) => true
    | _ => false) && ((PySem.W.findIn K (.type "int") (PySem.dunder nm)).isSome && ((PySem.W.findIn K (.type "int") (dunderR nm)).isSome && (decide (PySem.W.subIn K (.type "int") (.ref C) = some false) && decide (PySem.W.subIn K (.ref C) (.type "int") = some false)))))
def inpB (K : PySem.W.Frag) (C : Addr) (nm : String) : Bool := (match PySem.W.clsIn K C with
    | some cd => decide (cd.mro = [.ref C, .type "object"])
    | none => false) && (decide (PySem.W.findIn K (.ref C) (dunderI nm) = some none) && decide (PySem.W.findIn K (.type "object") (dunderI nm) = some none))
/-- the type of an instance -/
def tyB (K : PySem.W.Frag) (C : Addr) : Bool := decide (PySem.W.findIn K (.ref C) "__class__" = some (some (.builtin "object.__class__"))) && (decide (PySem.W.specialIn K (.builtin "object.__class__") "__get__" = some (some (.builtin "getset_descriptor.__get__"))) && (decide (PySem.W.takesIn K (.builtin "object.__class__") = some true) && decide (PySem.W.mroIn K C (.type "object") = some true)))
def clsC (K : PySem.W.Frag) (C : Addr) : Bool := PySem.W.plainGet K C Str.empty && (PySem.W.hasDictIn K C && (PySem.W.plainOver K C && decide (PySem.W.findIn K (.ref C) "__setattr__" = some (some (.builtin "object.__setattr__")))))
def mkB (K : PySem.W.Frag) (C : Addr) : Bool := PySem.W.makesIn K C && (decide (PySem.W.findIn K (.ref C) "__init__" = some (some (.ref (He.ma K C "__init__")))) && (PySem.W.isFn K (.ref (He.ma K C "__init__")) && PySem.W.keepIn K (.ref C)))
def methB (K : PySem.W.Frag) (C : Addr) (m : Str) : Bool := decide (PySem.W.findIn K (.ref C) m = some (some (.ref (He.ma K C m)))) && (PySem.W.isFn K (.ref (He.ma K C m)) && PySem.W.keepIn K (.ref (He.ma K C m)))
def propB (K : PySem.W.Frag) (C : Addr) (m : Str) : Bool := decide (PySem.W.findIn K (.ref C) m = some (some (.ref (He.ma K C m)))) && (decide (PySem.W.specialIn K (.ref (He.ma K C m)) "__get__" = some (some (.builtin "property.__get__"))) && (decide (PySem.W.takesIn K (.ref (He.ma K C m)) = some true) && (match PySem.W.recIn K (He.ma K C m) "property" with
    | some (.ref _ :: _) => true
    | _ => false)))
def creadB (K : PySem.W.Frag) (C : Addr) : Bool := PySem.W.readsIn K C (.type "type") && decide (PySem.W.specialIn K (.ref C) "__getattribute__" = some (some (.builtin "type.__getattribute__")))
def cmetB (K : PySem.W.Frag) (C : Addr) (m : Str) : Bool := He5.wrapB K C "classmethod" "classmethod.__get__" m && PySem.W.fnIn K (He5.wf K C "classmethod" m)
def plainT : List String := ["int", "bool", "tuple", "list", "str", "NoneType", "dict"]
def notB (K : PySem.W.Frag) (C : Addr) : Bool := plainT.all fun T => decide (PySem.W.kitOne K (.type T) (.ref C) = some false) && PySem.W.notFirst K C (.type T)
def polyB (K : PySem.W.Frag) (C : Addr) : Bool := clsC K C && (decide (PySem.W.findIn K (.ref C) "coefs" = some none) && (tyB K C && (numB K C "add" && (numB K C "sub" && (numB K C "mul" && (numB K C "floordiv" && (numB K C "pow" && (inpB K C "add" && (inpB K C "sub" && (inpB K C "mul" && (decide (PySem.W.kitOne K (.ref C) (.ref C) = some true) && (notB K C && (PySem.W.noSeq K C && PySem.W.fnIn K (He.ma K C "__call__"))))))))))))))
def er0B (K : PySem.W.Frag) (C : Addr) : Bool := PySem.W.excIn K C [.type "ValueError", .type "Exception", .type "BaseException", .type "object"] "ValueError.__new__" && (PySem.W.keepIn K (.ref C) && (decide (PySem.W.subIn K (.ref C) (.type "BaseException") = some true) && decide (PySem.W.typeIn K (.ref C) = some (.type "type"))))
def neB (K : PySem.W.Frag) (C : Addr) : Bool := decide (PySem.W.findIn K (.ref C) "__ne__" = some (some (.builtin "object.__ne__"))) && decide (PySem.W.subIn K (.ref C) (.type "object") = some true)
def tableB (K : PySem.W.Frag) (C : Addr) : Bool := clsC K C && (decide (PySem.W.findIn K (.ref C) "limit" = some none) && (decide (PySem.W.findIn K (.ref C) "looks" = some none) && (decide (PySem.W.findIn K (.ref C) "entries" = some none) && (decide (PySem.W.findIn K (.ref C) "reached" = some none) && (decide (PySem.W.findIn K (.ref C) "stops" = some none) && (tyB K C && (decide (PySem.W.kitOne K (.ref C) (.ref C) = some true) && notB K C)))))))
def trialB (K : PySem.W.Frag) (C : Addr) : Bool := clsC K C && (decide (PySem.W.findIn K (.ref C) "chart" = some none) && (decide (PySem.W.findIn K (.ref C) "steps" = some none) && (decide (PySem.W.findIn K (.ref C) "undone" = some none) && (decide (PySem.W.findIn K (.ref C) "letters" = some none) && decide (PySem.W.findIn K (.ref C) "said" = some none)))))
/-- a static method; one got from a base -/
def smetB (K : PySem.W.Frag) (C : Addr) (m : Str) : Bool := He5.wrapB K C "staticmethod" "staticmethod.__get__" m && PySem.W.keepIn K (.ref (He5.wf K C "staticmethod" m))
def smetD (K : PySem.W.Frag) (C D : Addr) (m : Str) : Bool := creadB K D && (smetB K D m && decide (He5.wf K D "staticmethod" m = He5.wf K C "staticmethod" m))
/-- a trial with a purse: its class has no more than the fields of its own -/
def paidB (K : PySem.W.Frag) (C : Addr) : Bool := trialB K C && (decide (PySem.W.findIn K (.ref C) "purse" = some none) && (decide (PySem.W.findIn K (.ref C) "per_try" = some none) && decide (PySem.W.findIn K (.ref C) "per_look" = some none)))
/-- a def with super(): the class x, its base b, the name m -/
structure SuD where
  x : Str
  b : Str
  m : Str
  qual : Str
  params : Arguments
  body : List Stmt
  scope : Scope
  kwd : List (Str × He.Dv)
def SuD.kws (K : PySem.W.Frag) (d : SuD) : List (Str × L2.V) := d.kwd.map fun q => (q.1, q.2.v K)
def suW (K : PySem.W.Frag) (d : SuD) : InW := match K.lookup (He.ma K (He.ga K d.x) d.m) with
  | some ⟨_, _, .func fd, _⟩ => some (fd.name, fd.qualname, fd.params, fd.body, fd.scope, fd.globals, fd.closure.map (·.1), fd.builtins)
  | _ => none
def SuD.val (d : SuD) : InW := some (d.m, d.qual, d.params, .stmts d.body, d.scope, mainGlobals, ["__class__"], builtinsNs)
def suB (file : Str) (K : PySem.W.Frag) (d : SuD) : Bool := (PySem.W.clsIn K (He.ga K d.x)).isSome && (decide (PySem.W.mroIn K (He.ga K d.x) (.ref (He.ga K d.x)) = some true) && (He.eqO (PySem.W.nsIn K cStatics "thirdparty.any") (some none) && (He.eqO (PySem.W.ks_superIn K (He.ga K d.x) (He.ga K d.x) d.m) (some (some (.ref (He.ma K (He.ga K d.b) d.m)))) &&
  (decide (PySem.W.typeIn K (.ref (He.ma K (He.ga K d.b) d.m)) = some (.type "function")) && (PySem.W.fnIn K (He.ma K (He.ga K d.b) d.m) && (match K.lookup (He.ma K (He.ga K d.x) d.m) with
    | some ⟨_, _, .func fd, _⟩ => codeB file K (He.ga K d.x) d.qual fd && He.kwdB K fd.kwdefaults (d.kws K)
    | _ => false))))))
abbrev AlW : Type := AlV × (Bool × List InW)
def obsW (file : Str) (fa : List He.Fa) (fn : List He5.DefA) (es : List ErD) (ss : List SuD) (ex : PySem.W.Frag → Bool) (K : PySem.W.Frag) : AlW := (obsV file fa fn es ex K, (ss.all fun d => suB file K d, ss.map fun d => suW K d))
def valW (fn : List He5.DefA) (es : List ErD) (ss : List SuD) : AlW := (valV fn es, (true, ss.map SuD.val))
def SaysW (file : Str) (fa : List He.Fa) (fn : List He5.DefA) (es : List ErD) (ss : List SuD) (ex : PySem.W.Frag → Bool) (K : PySem.W.Frag) : Prop := obsW file fa fn es ss ex K = valW fn es ss
def obsWG (n : Nat) (file : Str) (fa : List He.Fa) (fn : List He5.DefA) (es : List ErD) (ss : List SuD) (ex : PySem.W.Frag → Bool) (g : Addr → Option Obj) : AlW := obsW file fa fn es ss ex (He.frG g (asV g n))
def hookW (n : Nat) (file : Str) (fa : List He.Fa) (fn : List He5.DefA) (es : List ErD) (ss : List SuD) (ex : PySem.W.Frag → Bool) : PySem.W.Hook where
  α := AlW
  obs := fun s => obsWG n file fa fn es ss ex s.heap.get?
  val := fun _ => valW fn es ss
  says := fun _ h => ∃ K : PySem.W.Frag, K.In h ∧ SaysW file fa fn es ss ex K
  of := fun _ _ e => ⟨_, He.frG_in, e⟩
  keeps := fun _ _ _ ⟨K, hK, c⟩ k => ⟨K, PySem.W.Frag.In.keeps hK k, c⟩
end VS
set_option Elab.async false
set_option linter.all false
set_option maxRecDepth 100000
set_option maxHeartbeats 4000000
namespace Lk
open PySem PySem.Spec L2 VS
def topS (i : Nat) : Stmt := PySem.Challenge.pw_lookstop_k26_tables_accepted_or_refused.main.body.getD i (.Pass ⟨0, 0, 0, 0⟩)
abbrev s__law_box : Stmt := topS 20
abbrev s__law_take : Stmt := topS 21
abbrev s__law_gcd : Stmt := topS 22
abbrev s__law_ratio : Stmt := topS 23
abbrev s__law_word : Stmt := topS 24
abbrev s__law_parts : Stmt := topS 25
abbrev s__law_spoil : Stmt := topS 26
abbrev s__law_fault : Stmt := topS 27
abbrev s__law_bad_words : Stmt := topS 28
abbrev s_common_divisor : Stmt := topS 6
abbrev s_is_share : Stmt := topS 7
abbrev s_read_number : Stmt := topS 12
abbrev s_read_share : Stmt := topS 13
abbrev s_read_word : Stmt := topS 14
abbrev s_check_table : Stmt := topS 17
abbrev s_Table_is_end : Stmt := inClass (topS 18) 5
abbrev s_Table_spread : Stmt := inClass (topS 18) 2
abbrev s_Table___contains__ : Stmt := inClass (topS 18) 17
abbrev s_Table___init__ : Stmt := inClass (topS 18) 1
abbrev s__law_asked : Stmt := topS 29
abbrev s__law_agrees : Stmt := topS 30
abbrev s_law : Stmt := topS 31
def d__law_box : He5.DefA := ⟨fun K => He.ga K "_law_box", "_law_box", "_law_box", defArgs s__law_box, defBody s__law_box, defScope s__law_box, [], []⟩
def d__law_take : He5.DefA := ⟨fun K => He.ga K "_law_take", "_law_take", "_law_take", defArgs s__law_take, defBody s__law_take, defScope s__law_take, [], []⟩
def d__law_gcd : He5.DefA := ⟨fun K => He.ga K "_law_gcd", "_law_gcd", "_law_gcd", defArgs s__law_gcd, defBody s__law_gcd, defScope s__law_gcd, [], []⟩
def d__law_ratio : He5.DefA := ⟨fun K => He.ga K "_law_ratio", "_law_ratio", "_law_ratio", defArgs s__law_ratio, defBody s__law_ratio, defScope s__law_ratio, [], []⟩
def d__law_word : He5.DefA := ⟨fun K => He.ga K "_law_word", "_law_word", "_law_word", defArgs s__law_word, defBody s__law_word, defScope s__law_word, [], []⟩
def d__law_parts : He5.DefA := ⟨fun K => He.ga K "_law_parts", "_law_parts", "_law_parts", defArgs s__law_parts, defBody s__law_parts, defScope s__law_parts, [], []⟩
def d__law_spoil : He5.DefA := ⟨fun K => He.ga K "_law_spoil", "_law_spoil", "_law_spoil", defArgs s__law_spoil, defBody s__law_spoil, defScope s__law_spoil, [], []⟩
def d__law_fault : He5.DefA := ⟨fun K => He.ga K "_law_fault", "_law_fault", "_law_fault", defArgs s__law_fault, defBody s__law_fault, defScope s__law_fault, [], []⟩
def d__law_bad_words : He5.DefA := ⟨fun K => He.ga K "_law_bad_words", "_law_bad_words", "_law_bad_words", defArgs s__law_bad_words, defBody s__law_bad_words, defScope s__law_bad_words, [], []⟩
def d_common_divisor : He5.DefA := ⟨fun K => He.ga K "common_divisor", "common_divisor", "common_divisor", defArgs s_common_divisor, defBody s_common_divisor, defScope s_common_divisor, [], []⟩
def d_is_share : He5.DefA := ⟨fun K => He.ga K "is_share", "is_share", "is_share", defArgs s_is_share, defBody s_is_share, defScope s_is_share, [], []⟩
def d_read_number : He5.DefA := ⟨fun K => He.ga K "read_number", "read_number", "read_number", defArgs s_read_number, defBody s_read_number, defScope s_read_number, [], []⟩
def d_read_share : He5.DefA := ⟨fun K => He.ga K "read_share", "read_share", "read_share", defArgs s_read_share, defBody s_read_share, defScope s_read_share, [], []⟩
def d_read_word : He5.DefA := ⟨fun K => He.ga K "read_word", "read_word", "read_word", defArgs s_read_word, defBody s_read_word, defScope s_read_word, [], []⟩
def d_check_table : He5.DefA := ⟨fun K => He.ga K "check_table", "check_table", "check_table", defArgs s_check_table, defBody s_check_table, defScope s_check_table, [], []⟩
def d_Table_is_end : He5.DefA := ⟨fun K => He.ma K (He.ga K "Table") "is_end", "is_end", "Table.is_end", defArgs s_Table_is_end, defBody s_Table_is_end, defScope s_Table_is_end, [], []⟩
def d_Table_spread : He5.DefA := ⟨fun K => He.ma K (He.ga K "Table") "spread", "spread", "Table.spread", defArgs s_Table_spread, defBody s_Table_spread, defScope s_Table_spread, [], []⟩
def d_Table___contains__ : He5.DefA := ⟨fun K => He.ma K (He.ga K "Table") "__contains__", "__contains__", "Table.__contains__", defArgs s_Table___contains__, defBody s_Table___contains__, defScope s_Table___contains__, [], []⟩
def d_Table___init__ : He5.DefA := ⟨fun K => He.ma K (He.ga K "Table") "__init__", "__init__", "Table.__init__", defArgs s_Table___init__, defBody s_Table___init__, defScope s_Table___init__, [], []⟩
def d__law_asked : He5.DefA := ⟨fun K => He.ga K "_law_asked", "_law_asked", "_law_asked", defArgs s__law_asked, defBody s__law_asked, defScope s__law_asked, [], []⟩
def d__law_agrees : He5.DefA := ⟨fun K => He.ga K "_law_agrees", "_law_agrees", "_law_agrees", defArgs s__law_agrees, defBody s__law_agrees, defScope s__law_agrees, [], []⟩
def d_law : He5.DefA := ⟨fun K => He.ga K "law", "law", "law", defArgs s_law, defBody s_law, defScope s_law, [], []⟩
def fn : List He5.DefA := [d__law_box, d__law_take, d__law_gcd, d__law_ratio, d__law_word, d__law_parts, d__law_spoil, d__law_fault, d__law_bad_words, d_common_divisor, d_is_share, d_read_number, d_read_share, d_read_word, d_check_table, d_Table_is_end, d_Table_spread, d_Table___contains__, d_Table___init__, d__law_asked, d__law_agrees, d_law]
def fa : List He.Fa := [.glo "_law_box", .glo "_law_take", .glo "_law_gcd", .glo "_law_ratio", .glo "_law_word", .glo "_law_parts", .glo "_law_spoil", .glo "_law_fault", .glo "_law_bad_words", .glo "common_divisor", .glo "is_share", .glo "read_number", .glo "read_share", .glo "read_word", .glo "check_table", .glo "_law_asked", .glo "_law_agrees", .glo "law", .free "ValueError", .free "abs", .free "any", .free "int", .free "isinstance", .free "len", .free "list", .free "min", .free "range", .free "str", .free "tuple", .glo "InvalidTable", .glo "InvalidWord", .glo "StopError", .glo "Table", .free "super", .glo "KINDS", .int "MOST_DIGITS" 30, .int "MOST_TRIES" 30, .str "SILENT" "no word"]
abbrev Rw : PySem.W.OpenRow := PySem.W.OpenLaw.row PySem.Challenge.rw_lookstop_k26_tables_accepted_or_refused
abbrev Pg : Program := Rw.prog
abbrev si_InvalidTable : Stmt := inClass (topS 4) 0
def de_InvalidTable : ErD := ⟨"InvalidTable", "InvalidTable.__init__", defArgs si_InvalidTable, defBody si_InvalidTable, defScope si_InvalidTable, ["place"]⟩
abbrev si_InvalidWord : Stmt := inClass (topS 3) 0
def de_InvalidWord : ErD := ⟨"InvalidWord", "InvalidWord.__init__", defArgs si_InvalidWord, defBody si_InvalidWord, defScope si_InvalidWord, ["word"]⟩
def es : List ErD := [de_InvalidTable, de_InvalidWord]
def xs : List Xa := [fun K => tableB K (He.ga K "Table"), Xa.tup "KINDS" [.str "at least", .str "below"], Xa.exm "InvalidTable" "StopError" true, Xa.exm "InvalidWord" "StopError" true, Xa.exc "InvalidTable", Xa.exc "InvalidWord", Xa.kit "InvalidTable" "InvalidTable" true, Xa.kit "InvalidWord" "InvalidWord" true, Xa.kitT "InvalidTable" "ValueError" true, Xa.kitT "InvalidWord" "ValueError" true, fun K => methB K (He.ga K "Table") "is_end", fun K => methB K (He.ga K "Table") "spread", fun K => methB K (He.ga K "Table") "__contains__", fun K => mkB K (He.ga K "Table")]
abbrev hk : PySem.W.Hook := hookV 6 Pg.main.file fa fn es (exOf xs)
def ob (s : PySem.W.SharedT) : AlV := obsVG 6 Pg.main.file fa fn es (exOf xs) (HandSHeadRun.getT s)
theorem ob_eq (s : PySem.W.SharedT) : ob s = hk.obs s.abs := obsVG_eq (HandSHeadRun.getT_eq s)
def loose : List Str := (["_wall", "StopError", "InvalidWord", "InvalidTable", "common_divisor", "is_share", "read_number", "read_share", "read_word", "check_table", "Table", "_law_box", "_law_take", "_law_gcd", "_law_ratio", "_law_word", "_law_parts", "_law_spoil", "_law_fault", "_law_bad_words"] : List Str) ++ (["_law_asked", "_law_agrees", "KINDS", "SILENT", "MOST_DIGITS", "MOST_TRIES"] : List Str)
theorem run (w : World) : HandSHeadRun.RunEq Rw (PySem.W.view Rw.prog [31]) hk ob 8000 loose w := by
  intro os
  kernel_rfl
end Lk
set_option Elab.async false
set_option linter.all false
set_option maxRecDepth 100000
set_option maxHeartbeats 2000000
/-! promises of defs that raise, with the word that the exception's context is None -/
namespace VS
open PySem PySem.Spec PyProof.Rows L2
theorem passLn {X : Cx} : Passes (L2N.CX X.prog X.w) X E0 := fun _ _ _ _ _ _ _ h => by
  obtain ⟨_, _, _, _, _, _, _, _, _, _, _, _, z⟩ := h
  exact z.elim
theorem cxUpn {P : Program} {w : World} : StX.CXUp (L2N.CX P w) := by
  rintro outer s H s2 H2 E e s' un kp ho ⟨a, B, H', cls, d, ea, fl, hok, ub, na, os, ag, he⟩
  refine ⟨a, B, H', cls, d, ea, fl, hok, ⟨fun b o q n hb => ub.keep b o (kp b o q) (un.free b o q n (by simp)) hb, fun b o q hb => ub.slot b o (kp b o q) hb, fun b o q n => ub.free b o (kp b o q) (un.free b o q n (by simp)), fun b o q hb => ub.there b o (kp b o q) hb, fun b xs q => ub.tups b xs (un.tups b xs q), fun b o xs q => ub.frzs b o xs (un.frzs b o xs q), fun b ps q => ?_⟩, na, os.trans ho, ag, he⟩
  obtain ⟨m1, e1⟩ := un.tbls b ps q
  obtain ⟨m2, e2⟩ := ub.tbls b _ e1
  exact ⟨m1 ++ m2, by rw [e2, Array.append_assoc]⟩
section
variable {X : Cx} {e : Expr} {es : List Expr} {ta : TA} {p pos : Pos}
/-- X(e, ..) of one's own class with an __init__, to be raised: its context is None -/
theorem pmk_oexn {CX : CXT} {x : Str} {C fI : Addr} {k : Nat} {fd : FuncData} {ps : List Str} {sp : Sp} (T : OexC X.K C) (iC : PySem.W.findIn X.K (.ref C) "__init__" = some (some (.ref fI))) (tI : PySem.W.typeIn X.K (.ref fI) = some (.type "function"))
    (F1 : FnOk X.prog X.w X.K X.mg X.base CX k fI fd ps sp) (hr : Room (k + 1) X.A) (hb : Binds X.K fd ps []) (hx : Passes CX X (fun _ _ _ => False)) (hg : Gl X x) (hm : X.mg x = some (.ref C)) (ha : PA X (e :: es) ta)
    (hdb : (x == ("__debug__" : Str)) = false := by decide) (he : starEach (e :: es) X.env = (false, eval e X.env) :: starEach es X.env := by rfl) (hpl : (backTo pos (starEach es X.env)).any (·.1) = false := by rfl) :
    L2N.PMk X (.Call (.Name x p) (e :: es) [] pos) (tMkO C sp [] ta) := fun pins s σ H Q I h => by
  obtain ⟨nm, q, N, bs, bm, sn, sub, ab, col, dd, k0, k1, k2, k3, k5, hC, hbm⟩ := T.cls
  refine wpAny_Call_Name_kw (ld_glob I hg hm ?_ hdb)
  refine PySem.W.callWith_K (h₀ := X.base) I.ok.mod.kin T.kC (thn (ha.run pos pins s σ H _ I h) fun us s1 ⟨vs, H1, I1, r1, hz, q1⟩ => ⟨I1.kIn, ?_⟩) he hpl
  show wpAny _ _ (call (.ref C) us) _ _ _
  obtain ⟨hp, g, dr, tk, os⟩ := s1
  have hsz : hp.objs.size ≤ hp.objs.size + 1 := Nat.le_succ _
  have hq := q1 (hp.objs.size + 1) (I1.hok.fresh hsz)
  rw [List.append_nil] at hq
  have kk : ∀ b o, hp.get? b = some o → ((hp.push (PySem.W.kdv_tup us)).push (PySem.HandSPX.excO C hp.objs.size)).get? b = some o := fun b o e => Heap.get?_push_of_some _ (Heap.get?_push_of_some _ e)
  have I2 : Inv X pins σ (upd H1 (hp.objs.size + 1) (exo (hp.objs.size + 1) C none)) ⟨(hp.push (PySem.W.kdv_tup us)).push (PySem.HandSPX.excO C hp.objs.size), g, dr, tk, os⟩ :=
    I1.laid (t' := tk) (a := hp.objs.size + 1) (o := exo (hp.objs.size + 1) C none) (h' := (hp.push (PySem.W.kdv_tup us)).push (PySem.HandSPX.excO C hp.objs.size)) kk hsz (exo_ok (by heap_get))
  have r2 : Vals (V.ref (hp.objs.size + 1) :: vs) (Value.ref (hp.objs.size + 1) :: us) := .cons rfl r1
  have hl : (Value.ref (hp.objs.size + 1) :: us ++ []).length = ps.length := by
    rw [List.append_nil, ← r2.length]
    exact F1.len _ _ _ _ hq
  have hus : us.length ≤ sizeLine := by rw [← Paired.length r1, sizeLine_eq]; omega
  have hbb := hb _ (Value.ref (hp.objs.size + 1) :: us) I2.kIn hl
  rw [List.append_nil] at hbb
  refine wpAny_call (PySem.HandSPX.call_own PySem.F.excBase_ValueError (fun Y => PySem.HandSPX.refsVE_contains Y bm hbm) (I1.kIn _ _ hC) (PySem.W.looks_findIn I1.kIn iC) (fun self => PySem.W.bind_fn I1.kIn self tI) hus
    (codeAny_mono (F1.run _ X.stack _ _ ⟨Value.ref (hp.objs.size + 1) :: us, []⟩ (Value.ref (hp.objs.size + 1) :: us) _ _ (fun _ _ _ => False) (hr.make C us []) (I2.env0.make C us []) hbb r2 hq) fun r s' hq' => ?_))
  cases r with
  | error er => exact hx pins σ _ _ er s' I2 hq'
  | ok fl =>
    cases fl with
    | ret u =>
      obtain ⟨v, H2, os2, bare2, un2, hok2, rv, ev, d, fs, ea, ed, hd1, q2⟩ := hq'
      subst ev
      obtain ⟨h2, g2, d2, t2, os'⟩ := s'
      obtain ⟨t0, G, J, kG, ge, hoe, na⟩ := mk_end0 (d2 := d2) (t2 := t2) I1 hsz kk un2 hok2 os2 bare2 ea ed hd1
      exact ⟨rv, _, _, _, ⟨G, g2, d2, t2, os'⟩, _, .ref C, some d, rfl, J, kG, ge, hoe, ⟨rfl, rfl, fun vs e => by cases e; rfl⟩, rfl, rfl, na, rfl, bare2, raises_own T.exC T.tyC, q2⟩
    | next => exact False.elim hq'
    | brk => exact False.elim hq'
    | cont => exact False.elim hq'
end
end VS
set_option Elab.async false
set_option linter.all false
set_option maxRecDepth 100000
/-! Values without a heap: data, where they stand, and the program's steps read over data alone. -/
namespace VS
open PySem PySem.Spec L2

/-- data -/
inductive Dt where
  | non | bl (b : Bool) | int (i : Int) | str (x : Str) | ty (n : String) | adr (a : Addr)
  | tup (xs : List Dt) | lst (xs : List Dt) | frl (xs : List Dt)
  | dT (ks : List (List Key)) (xs : List Dt)
  | dK (ks : List Key) (xs : List Dt)
  | obj (C : Addr) (ns : List Str) (xs : List Dt)
  | exv (a : Addr) (ns : List Str) (xs : List Dt) (d : Option Addr)
  | at_ (a : Addr) (d : Dt)
  | key (ks : List Key)

mutual
/-- v is d in the heap F -/
def Rp (K : PySem.W.Frag) (F : Hp) : Dt → V → Prop
  | .non, v => v = .non
  | .bl b, v => v = .bl b
  | .int i, v => v = .int i
  | .str x, v => v = .str x
  | .ty n, v => v = .ty n
  | .adr a, v => v = .ref a
  | .tup xs, v => ∃ a vs, v = .ref a ∧ SqT K F a vs ∧ RpL K F xs vs
  | .lst xs, v => ∃ a vs, v = .ref a ∧ F a = some (.lst vs) ∧ RpL K F xs vs
  | .frl xs, v => ∃ a vs, v = .ref a ∧ SqL K F a vs ∧ RpL K F xs vs
  | .dT ks xs, v => ∃ a vs, v = .ref a ∧ Rd F a (.dT (ks.zip vs)) ∧ ks.length = vs.length ∧ RpL K F xs vs
  | .dK ks xs, v => ∃ a vs, v = .ref a ∧ Rd F a (.dK (ks.zip vs)) ∧ ks.length = vs.length ∧ RpL K F xs vs
  | .obj C ns xs, v => ∃ a dx vs, v = .ref a ∧ F a = some (.ins C dx (ns.zip vs)) ∧ ns.length = vs.length ∧ RpL K F xs vs
  | .exv a ns xs d, v => v = .ref a ∧ ∀ dx, d = some dx → ∃ vs, F dx = some (.xd (ns.zip vs)) ∧ ns.length = vs.length ∧ RpL K F xs vs
  | .at_ a d, v => v = .ref a ∧ Rp K F d v
  | .key ks, v => ∃ a, v = .ref a ∧ F a = some (.tup (ks.map kV))
def RpL (K : PySem.W.Frag) (F : Hp) : List Dt → List V → Prop
  | [], vs => vs = []
  | d :: ds, vs => ∃ v r, vs = v :: r ∧ Rp K F d v ∧ RpL K F ds r
end

theorem sq_t {K : PySem.W.Frag} {F F' : Hp} {a : Addr} {xs : List V} (e : Same F F') (h : SqT K F a xs) : SqT K F' a xs := by
  rcases h with (h | ⟨o, h⟩) | h
  · exact .inl (.inl (e _ _ h))
  · exact .inl (.inr ⟨o, e _ _ h⟩)
  · exact .inr h

theorem rd_mono {F F' : Hp} {a : Addr} {u : HO} (e : Same F F') (h : Rd F a u) : Rd F' a u := by
  rcases h with h | ⟨o, h⟩
  · exact .inl (e _ _ h)
  · exact .inr ⟨o, e _ _ h⟩

mutual
theorem Rp.mono {K : PySem.W.Frag} {F F' : Hp} (e : Same F F') : ∀ {d : Dt} {v : V}, Rp K F d v → Rp K F' d v
  | .non, _, h => by simp only [Rp] at h ⊢; exact h
  | .bl _, _, h => by simp only [Rp] at h ⊢; exact h
  | .int _, _, h => by simp only [Rp] at h ⊢; exact h
  | .str _, _, h => by simp only [Rp] at h ⊢; exact h
  | .ty _, _, h => by simp only [Rp] at h ⊢; exact h
  | .adr _, _, h => by simp only [Rp] at h ⊢; exact h
  | .tup xs, _, h => by
    simp only [Rp] at h ⊢
    obtain ⟨a, vs, h1, h2, h3⟩ := h
    exact ⟨a, vs, h1, sq_t e h2, RpL.mono e h3⟩
  | .lst xs, _, h => by
    simp only [Rp] at h ⊢
    obtain ⟨a, vs, h1, h2, h3⟩ := h
    exact ⟨a, vs, h1, e _ _ h2, RpL.mono e h3⟩
  | .frl xs, _, h => by
    simp only [Rp] at h ⊢
    obtain ⟨a, vs, h1, h2, h3⟩ := h
    exact ⟨a, vs, h1, e.seq h2, RpL.mono e h3⟩
  | .dT ks xs, _, h => by
    simp only [Rp] at h ⊢
    obtain ⟨a, vs, h1, h2, h4, h3⟩ := h
    exact ⟨a, vs, h1, rd_mono e h2, h4, RpL.mono e h3⟩
  | .dK ks xs, _, h => by
    simp only [Rp] at h ⊢
    obtain ⟨a, vs, h1, h2, h4, h3⟩ := h
    exact ⟨a, vs, h1, rd_mono e h2, h4, RpL.mono e h3⟩
  | .key ks, _, h => by
    simp only [Rp] at h ⊢
    obtain ⟨a, h1, h2⟩ := h
    exact ⟨a, h1, e _ _ h2⟩
  | .obj C ns xs, _, h => by
    simp only [Rp] at h ⊢
    obtain ⟨a, dx, vs, h1, h2, h4, h3⟩ := h
    exact ⟨a, dx, vs, h1, e _ _ h2, h4, RpL.mono e h3⟩
  | .exv a ns xs d, _, h => by
    simp only [Rp] at h ⊢
    refine ⟨h.1, fun dx hd => ?_⟩
    obtain ⟨vs, h1, h2, h3⟩ := h.2 dx hd
    exact ⟨vs, e _ _ h1, h2, RpL.mono e h3⟩
  | .at_ a d, _, h => by
    simp only [Rp] at h ⊢
    exact ⟨h.1, Rp.mono e h.2⟩
theorem RpL.mono {K : PySem.W.Frag} {F F' : Hp} (e : Same F F') : ∀ {ds : List Dt} {vs : List V}, RpL K F ds vs → RpL K F' ds vs
  | [], _, h => by simp only [RpL] at h ⊢; exact h
  | d :: ds, _, h => by
    simp only [RpL] at h ⊢
    obtain ⟨v, r, h1, h2, h3⟩ := h
    exact ⟨v, r, h1, Rp.mono e h2, RpL.mono e h3⟩
end

section
variable {K : PySem.W.Frag} {F : Hp}
theorem RpL.nil : RpL K F [] [] := by simp only [RpL]
theorem RpL.cons {d : Dt} {v : V} {ds : List Dt} {vs : List V} (h : Rp K F d v) (t : RpL K F ds vs) : RpL K F (d :: ds) (v :: vs) := by
  simp only [RpL]
  exact ⟨v, vs, rfl, h, t⟩
theorem RpL.of_cons {d : Dt} {ds : List Dt} {vs : List V} (h : RpL K F (d :: ds) vs) : ∃ v r, vs = v :: r ∧ Rp K F d v ∧ RpL K F ds r := by
  simp only [RpL] at h
  exact h
theorem RpL.of_nil {vs : List V} (h : RpL K F [] vs) : vs = [] := by
  simp only [RpL] at h
  exact h
theorem RpL.length : ∀ {ds : List Dt} {vs : List V}, RpL K F ds vs → ds.length = vs.length
  | [], _, h => by rw [h.of_nil]; rfl
  | d :: ds, _, h => by
    obtain ⟨v, r, rfl, _, t⟩ := h.of_cons
    simp only [List.length_cons]
    rw [RpL.length t]
theorem RpL.get : ∀ {ds : List Dt} {vs : List V} {i : Nat} {d : Dt}, RpL K F ds vs → ds[i]? = some d → ∃ v, vs[i]? = some v ∧ Rp K F d v
  | [], _, i, d, _, e => by simp at e
  | d0 :: ds, _, 0, d, h, e => by
    obtain ⟨v, r, rfl, h1, t⟩ := h.of_cons
    have e' : d0 = d := by simpa using e
    exact ⟨v, rfl, e' ▸ h1⟩
  | d0 :: ds, _, i + 1, d, h, e => by
    obtain ⟨v, r, rfl, h1, t⟩ := h.of_cons
    obtain ⟨v', e1, e2⟩ := RpL.get (i := i) (d := d) t (by simpa using e)
    exact ⟨v', by simpa using e1, e2⟩
theorem RpL.append : ∀ {ds es : List Dt} {vs ws : List V}, RpL K F ds vs → RpL K F es ws → RpL K F (ds ++ es) (vs ++ ws)
  | [], _, _, _, h, t => by rw [h.of_nil]; exact t
  | d :: ds, _, _, _, h, t => by
    obtain ⟨v, r, rfl, h1, h2⟩ := h.of_cons
    exact .cons h1 (RpL.append h2 t)
theorem RpL.take : ∀ {ds : List Dt} {vs : List V} (n : Nat), RpL K F ds vs → RpL K F (ds.take n) (vs.take n)
  | _, _, 0, h => by simp only [List.take_zero]; exact .nil
  | [], _, n + 1, h => by rw [h.of_nil]; exact .nil
  | d :: ds, _, n + 1, h => by
    obtain ⟨v, r, rfl, h1, h2⟩ := h.of_cons
    exact .cons h1 (RpL.take n h2)
theorem RpL.drop : ∀ {ds : List Dt} {vs : List V} (n : Nat), RpL K F ds vs → RpL K F (ds.drop n) (vs.drop n)
  | _, _, 0, h => h
  | [], _, n + 1, h => by rw [h.of_nil]; exact .nil
  | d :: ds, _, n + 1, h => by
    obtain ⟨v, r, rfl, h1, h2⟩ := h.of_cons
    exact RpL.drop n h2
theorem RpL.set : ∀ {ds : List Dt} {vs : List V} {d : Dt} {v : V} (n : Nat), RpL K F ds vs → Rp K F d v → RpL K F (ds.set n d) (vs.set n v)
  | [], _, _, _, n, h, q => by rw [h.of_nil]; exact .nil
  | d :: ds, _, _, _, 0, h, q => by
    obtain ⟨v, r, rfl, h1, h2⟩ := h.of_cons
    exact .cons q h2
  | d :: ds, _, _, _, n + 1, h, q => by
    obtain ⟨v, r, rfl, h1, h2⟩ := h.of_cons
    exact .cons h1 (RpL.set n h2 q)
theorem rp_int {i : Int} {v : V} : Rp K F (.int i) v ↔ v = .int i := by simp only [Rp]
theorem rp_bl {i : Bool} {v : V} : Rp K F (.bl i) v ↔ v = .bl i := by simp only [Rp]
theorem rp_str {i : Str} {v : V} : Rp K F (.str i) v ↔ v = .str i := by simp only [Rp]
theorem rp_non {v : V} : Rp K F .non v ↔ v = .non := by simp only [Rp]
theorem rp_adr {a : Addr} {v : V} : Rp K F (.adr a) v ↔ v = .ref a := by simp only [Rp]
theorem rp_ty {n : String} {v : V} : Rp K F (.ty n) v ↔ v = .ty n := by simp only [Rp]
theorem rp_tup {xs : List Dt} {v : V} : Rp K F (.tup xs) v ↔ ∃ a vs, v = .ref a ∧ SqT K F a vs ∧ RpL K F xs vs := by simp only [Rp]
theorem rp_lst {xs : List Dt} {v : V} : Rp K F (.lst xs) v ↔ ∃ a vs, v = .ref a ∧ F a = some (.lst vs) ∧ RpL K F xs vs := by simp only [Rp]
theorem rp_frl {xs : List Dt} {v : V} : Rp K F (.frl xs) v ↔ ∃ a vs, v = .ref a ∧ SqL K F a vs ∧ RpL K F xs vs := by simp only [Rp]
theorem rp_key {ks : List Key} {v : V} : Rp K F (.key ks) v ↔ ∃ a, v = .ref a ∧ F a = some (.tup (ks.map kV)) := by simp only [Rp]
theorem rp_dT {ks : List (List Key)} {xs : List Dt} {v : V} : Rp K F (.dT ks xs) v ↔ ∃ a vs, v = .ref a ∧ Rd F a (.dT (ks.zip vs)) ∧ ks.length = vs.length ∧ RpL K F xs vs := by simp only [Rp]
theorem rp_exv {a : Addr} {ns : List Str} {xs : List Dt} {d : Option Addr} {v : V} : Rp K F (.exv a ns xs d) v ↔ v = .ref a ∧ ∀ dx, d = some dx → ∃ vs, F dx = some (.xd (ns.zip vs)) ∧ ns.length = vs.length ∧ RpL K F xs vs := by simp only [Rp]
theorem rp_obj {C : Addr} {ns : List Str} {xs : List Dt} {v : V} : Rp K F (.obj C ns xs) v ↔ ∃ a dx vs, v = .ref a ∧ F a = some (.ins C dx (ns.zip vs)) ∧ ns.length = vs.length ∧ RpL K F xs vs := by simp only [Rp]
theorem RpL.ints : ∀ {ns : List Int} {vs : List V}, RpL K F (ns.map Dt.int) vs → vs = ns.map V.int
  | [], _, h => h.of_nil
  | n :: ns, _, h => by
    obtain ⟨v, r, rfl, h1, h2⟩ := h.of_cons
    rw [rp_int.mp h1, RpL.ints h2]
    rfl
theorem RpL.of_ints : ∀ {ns : List Int}, RpL K F (ns.map Dt.int) (ns.map V.int)
  | [] => .nil
  | n :: ns => .cons (rp_int.mpr rfl) RpL.of_ints
end

/-- there, and no tuple -/
def NT (o : Option HO) : Prop := ∃ u, o = some u ∧ ∀ xs, u ≠ .tup xs
theorem NT.ne {o : Option HO} (h : NT o) : o ≠ none := by
  obtain ⟨u, e, _⟩ := h
  rw [e]
  exact fun z => nomatch z
/-! ### what may change besides: a region and its word -/
structure Reg where
  M : Addr → Prop
  B : Hp → Prop
  st : ∀ H H', (∀ a o, M a → H a = some o → H' a = some o) → B H → B H'
  Z : Hp → Hp → Prop
  zs : ∀ F H F', Same F F' → (∀ a, NT (H a) → F a = none → F' a = none) → Z F H → Z F' H
def Reg.nil : Reg := ⟨fun _ => False, fun _ => True, fun _ _ _ _ => trivial, fun _ _ => True, fun _ _ _ _ _ _ => trivial⟩

structure Wf (R : Reg) (F H : Hp) : Prop where
  fh : Same F H
  off : ∀ a, R.M a → F a = none
  oc : ∀ a, R.M a → NT (H a)
  b : R.B H
/-- from F, H on: F' is F and what is new, H' is H but for the region -/
structure Ext (R : Reg) (F H F' H' : Hp) : Prop where
  wf : Wf R F' H'
  ff : Same F F'
  hh : ∀ a o, ¬ R.M a → H a = some o → H' a = some o
  fr : ∀ a, NT (H a) → F a = none → F' a = none
theorem Ext.refl {R : Reg} {F H : Hp} (w : Wf R F H) : Ext R F H F H := ⟨w, .refl _, fun _ _ _ h => h, fun _ _ h => h⟩
theorem Wf.nm {R : Reg} {F H : Hp} (w : Wf R F H) {a : Addr} {o : HO} (h : F a = some o) : ¬ R.M a := fun z => by
  rw [w.off a z] at h
  cases h
theorem Ext.keep {R : Reg} {F H F' H' : Hp} (e : Ext R F H F' H') {a : Addr} (h : NT (H a)) : NT (H' a) := by
  by_cases q : R.M a
  · exact e.wf.oc a q
  · obtain ⟨u, h1, h2⟩ := h
    exact ⟨u, e.hh a u q h1, h2⟩
theorem Ext.keep0 {R : Reg} {F H F' H' : Hp} (e : Ext R F H F' H') {a : Addr} (h : H a ≠ none) : H' a ≠ none := by
  by_cases q : R.M a
  · exact (e.wf.oc a q).ne
  · cases z : H a with
    | none => exact absurd z h
    | some o => rw [e.hh a o q z]; exact fun z => nomatch z
theorem Ext.trans {R : Reg} {F H F1 H1 F2 H2 : Hp} (a : Ext R F H F1 H1) (b : Ext R F1 H1 F2 H2) : Ext R F H F2 H2 :=
  ⟨b.wf, a.ff.trans b.ff, fun x o n h => b.hh x o n (a.hh x o n h), fun x h n => b.fr x (a.keep h) (a.fr x h n)⟩
theorem Wf.new {R : Reg} {F H : Hp} {p : Addr} (w : Wf R F H) (h : H p = none) : ¬ R.M p := fun z => (w.oc p z).ne h
theorem Wf.grow {R : Reg} {F F' H H' : Hp} (w : Wf R F H) (g : Same H H') (ff : Same F F') (fh : Same F' H') (fr : ∀ a, NT (H a) → F a = none → F' a = none) : Ext R F H F' H' := by
  refine ⟨⟨fh, fun a m => ?_, fun a m => ?_, R.st H H' (fun a o _ h => g a o h) w.b⟩, ff, fun a o _ h => g a o h, fr⟩
  · exact fr a (w.oc a m) (w.off a m)
  · obtain ⟨u, h1, h2⟩ := w.oc a m
    exact ⟨u, g a u h1, h2⟩
theorem same_upd {H : Hp} {p : Addr} {o : HO} (h : H p = none) : Same H (upd H p o) := fun b x e => by
  rw [upd_ne (ne_of_none e h)]
  exact e
theorem same_upd2 {F H : Hp} {p : Addr} {o : HO} (s : Same F H) (h : H p = none) : Same (upd F p o) (upd H p o) := fun b x e => by
  by_cases q : b = p
  · subst q; rw [upd_same] at e ⊢; exact e
  · rw [upd_ne q] at e ⊢; exact s b x e
/-- a new thing, known | a new thing, one's own -/
theorem Wf.made {R : Reg} {F H : Hp} {p : Addr} {o : HO} (w : Wf R F H) (h : H p = none) : Ext R F H (upd F p o) (upd H p o) :=
  w.grow (same_upd h) (same_upd (w.fh.free h)) (same_upd2 w.fh h) fun a ha hf => by rw [upd_ne (fun z => ha.ne (by rw [z]; exact h))]; exact hf
theorem Wf.own {R : Reg} {F H : Hp} {p : Addr} {o : HO} (w : Wf R F H) (h : H p = none) : Ext R F H F (upd H p o) :=
  w.grow (same_upd h) (.refl _) (w.fh.trans (same_upd h)) fun a ha hf => hf

/-! ### slots -/
inductive Sl where
  | no | sh (d : Dt) | ow (d : Dt)
/-- the thing at o, one's own, is d -/
def OwO (K : PySem.W.Frag) (F H : Hp) (o : Addr) : Dt → Prop
  | .lst xs => ∃ vs, H o = some (.lst vs) ∧ RpL K F xs vs
  | .dT ks xs => ∃ vs, H o = some (.dT (ks.zip vs)) ∧ ks.length = vs.length ∧ RpL K F xs vs
  | .dK ks xs => ∃ vs, H o = some (.dK (ks.zip vs)) ∧ ks.length = vs.length ∧ RpL K F xs vs
  | .obj C ns xs => ∃ dx vs, H o = some (.ins C dx (ns.zip vs)) ∧ ns.length = vs.length ∧ RpL K F xs vs
  | .at_ a (.obj C ns xs) => o = a ∧ ∃ dx vs, H o = some (.ins C dx (ns.zip vs)) ∧ ns.length = vs.length ∧ RpL K F xs vs
  | .at_ a (.lst xs) => o = a ∧ ∃ vs, H o = some (.lst vs) ∧ RpL K F xs vs
  | .at_ a (.dT ks xs) => o = a ∧ ∃ vs, H o = some (.dT (ks.zip vs)) ∧ ks.length = vs.length ∧ RpL K F xs vs
  | _ => False
/-- the kinds of one's own things -/
theorem OwO.kinds {K : PySem.W.Frag} {F H : Hp} {o : Addr} : ∀ {d : Dt}, OwO K F H o d → (∃ xs, d = .lst xs) ∨ (∃ ks xs, d = .dT ks xs) ∨ (∃ ks xs, d = .dK ks xs) ∨ (∃ C ns xs, d = .obj C ns xs) ∨ (∃ a C ns xs, d = .at_ a (.obj C ns xs)) ∨ (∃ a xs, d = .at_ a (.lst xs)) ∨ (∃ a ks xs, d = .at_ a (.dT ks xs))
  | .lst xs, _ => .inl ⟨xs, rfl⟩
  | .dT ks xs, _ => .inr (.inl ⟨ks, xs, rfl⟩)
  | .dK ks xs, _ => .inr (.inr (.inl ⟨ks, xs, rfl⟩))
  | .obj C ns xs, _ => .inr (.inr (.inr (.inl ⟨C, ns, xs, rfl⟩)))
  | .at_ a (.obj C ns xs), _ => .inr (.inr (.inr (.inr (.inl ⟨a, C, ns, xs, rfl⟩))))
  | .at_ a (.lst xs), _ => .inr (.inr (.inr (.inr (.inr (.inl ⟨a, xs, rfl⟩)))))
  | .at_ a (.dT ks xs), _ => .inr (.inr (.inr (.inr (.inr (.inr ⟨a, ks, xs, rfl⟩)))))
  | .at_ _ .non, h | .at_ _ (.bl _), h | .at_ _ (.int _), h | .at_ _ (.str _), h | .at_ _ (.ty _), h | .at_ _ (.adr _), h | .at_ _ (.tup _), h | .at_ _ (.frl _), h | .at_ _ (.dK _ _), h | .at_ _ (.exv ..), h | .at_ _ (.at_ _ _), h | .at_ _ (.key _), h => (show False from h).elim
  | .non, h | .bl _, h | .int _, h | .str _, h | .ty _, h | .adr _, h | .tup _, h | .frl _, h | .exv .., h | .key _, h => (show False from h).elim
theorem OwO.some {K : PySem.W.Frag} {F H : Hp} {o : Addr} {d : Dt} (h : OwO K F H o d) : H o ≠ none := by
  rcases h.kinds with ⟨xs, rfl⟩ | ⟨ks, xs, rfl⟩ | ⟨ks, xs, rfl⟩ | ⟨C, ns, xs, rfl⟩ | ⟨a, C, ns, xs, rfl⟩ | ⟨a, xs, rfl⟩ | ⟨a, ks, xs, rfl⟩
  · obtain ⟨vs, h, _⟩ := h; rw [h]; exact fun z => nomatch z
  · obtain ⟨vs, h, _⟩ := h; rw [h]; exact fun z => nomatch z
  · obtain ⟨vs, h, _⟩ := h; rw [h]; exact fun z => nomatch z
  · obtain ⟨dx, vs, h, _⟩ := h; rw [h]; exact fun z => nomatch z
  · obtain ⟨_, dx, vs, h, _⟩ := h; rw [h]; exact fun z => nomatch z
  · obtain ⟨_, vs, h, _⟩ := h; rw [h]; exact fun z => nomatch z
  · obtain ⟨_, vs, h, _⟩ := h; rw [h]; exact fun z => nomatch z
theorem OwO.nt {K : PySem.W.Frag} {F H : Hp} {o : Addr} {d : Dt} (h : OwO K F H o d) : NT (H o) := by
  rcases h.kinds with ⟨xs, rfl⟩ | ⟨ks, xs, rfl⟩ | ⟨ks, xs, rfl⟩ | ⟨C, ns, xs, rfl⟩ | ⟨a, C, ns, xs, rfl⟩ | ⟨a, xs, rfl⟩ | ⟨a, ks, xs, rfl⟩
  · obtain ⟨vs, h, _⟩ := h; exact ⟨_, h, fun _ z => nomatch z⟩
  · obtain ⟨vs, h, _⟩ := h; exact ⟨_, h, fun _ z => nomatch z⟩
  · obtain ⟨vs, h, _⟩ := h; exact ⟨_, h, fun _ z => nomatch z⟩
  · obtain ⟨dx, vs, h, _⟩ := h; exact ⟨_, h, fun _ z => nomatch z⟩
  · obtain ⟨_, dx, vs, h, _⟩ := h; exact ⟨_, h, fun _ z => nomatch z⟩
  · obtain ⟨_, vs, h, _⟩ := h; exact ⟨_, h, fun _ z => nomatch z⟩
  · obtain ⟨_, vs, h, _⟩ := h; exact ⟨_, h, fun _ z => nomatch z⟩
theorem OwO.mono {K : PySem.W.Frag} {F H F' H' : Hp} {o : Addr} {d : Dt} (ff : Same F F') (ho : ∀ u, H o = Option.some u → H' o = Option.some u) (h : OwO K F H o d) : OwO K F' H' o d := by
  rcases h.kinds with ⟨xs, rfl⟩ | ⟨ks, xs, rfl⟩ | ⟨ks, xs, rfl⟩ | ⟨C, ns, xs, rfl⟩ | ⟨a, C, ns, xs, rfl⟩ | ⟨a, xs, rfl⟩ | ⟨a, ks, xs, rfl⟩
  · obtain ⟨vs, h, r⟩ := h; exact ⟨vs, ho _ h, r.mono ff⟩
  · obtain ⟨vs, h, l, r⟩ := h; exact ⟨vs, ho _ h, l, r.mono ff⟩
  · obtain ⟨vs, h, l, r⟩ := h; exact ⟨vs, ho _ h, l, r.mono ff⟩
  · obtain ⟨dx, vs, h, l, r⟩ := h; exact ⟨dx, vs, ho _ h, l, r.mono ff⟩
  · obtain ⟨e, dx, vs, h, l, r⟩ := h; exact ⟨e, dx, vs, ho _ h, l, r.mono ff⟩
  · obtain ⟨e, vs, h, r⟩ := h; exact ⟨e, vs, ho _ h, r.mono ff⟩
  · obtain ⟨e, vs, h, l, r⟩ := h; exact ⟨e, vs, ho _ h, l, r.mono ff⟩
def SlOk (K : PySem.W.Frag) (R : Reg) (F H : Hp) : Sl → Option V → Prop
  | .no, _ => True
  | .sh d, v => ∃ x, v = some x ∧ Rp K F d x
  | .ow d, v => ∃ o, v = some (.ref o) ∧ F o = none ∧ ¬ R.M o ∧ OwO K F H o d
inductive SlsOk (K : PySem.W.Frag) (R : Reg) (F H : Hp) : List Sl → List (Option V) → Prop where
  | nil : SlsOk K R F H [] []
  | cons {g : Sl} {v : Option V} {Gs : List Sl} {vs : List (Option V)} (h : SlOk K R F H g v) (t : SlsOk K R F H Gs vs) : SlsOk K R F H (g :: Gs) (v :: vs)
/-- one's own things -/
def owns : List Sl → List (Option V) → List Addr
  | .ow _ :: G, some (.ref o) :: vs => o :: owns G vs
  | _ :: G, _ :: vs => owns G vs
  | _, _ => []
structure Ty (K : PySem.W.Frag) (R : Reg) (G : List Sl) (σ : St) (F H : Hp) : Prop where
  wf : Wf R F H
  sl : SlsOk K R F H G σ
  nd : (owns G σ).Nodup
section
variable {K : PySem.W.Frag} {R : Reg} {F H F' H' : Hp}
theorem SlOk.ext {g : Sl} {v : Option V} (h : SlOk K R F H g v) (e : Ext R F H F' H') : SlOk K R F' H' g v := by
  cases g with
  | no => trivial
  | sh d =>
    obtain ⟨x, h1, h2⟩ := h
    exact ⟨x, h1, h2.mono e.ff⟩
  | ow d =>
    obtain ⟨o, h1, h2, h3, h4⟩ := h
    exact ⟨o, h1, e.fr o h4.nt h2, h3, h4.mono e.ff fun u q => e.hh o u h3 q⟩
theorem SlsOk.ext {G : List Sl} {σ : St} (h : SlsOk K R F H G σ) (e : Ext R F H F' H') : SlsOk K R F' H' G σ := by
  induction h with
  | nil => exact .nil
  | cons h _ ih => exact .cons (h.ext e) ih
theorem Ty.ext {G : List Sl} {σ : St} (h : Ty K R G σ F H) (e : Ext R F H F' H') : Ty K R G σ F' H' := ⟨e.wf, h.sl.ext e, h.nd⟩
theorem SlsOk.get {G : List Sl} {σ : St} (h : SlsOk K R F H G σ) {i : Nat} {g : Sl} (e : G[i]? = some g) : ∃ v, σ[i]? = some v ∧ SlOk K R F H g v := by
  induction h generalizing i with
  | nil => simp at e
  | cons h t ih =>
    cases i with
    | zero =>
      have e' := Option.some.inj e
      subst e'
      exact ⟨_, rfl, h⟩
    | succ j => exact ih (i := j) (by simpa using e)
theorem SlsOk.len {G : List Sl} {σ : St} (h : SlsOk K R F H G σ) : G.length = σ.length := by
  induction h with
  | nil => rfl
  | cons _ _ ih => simp [ih]
theorem SlsOk.set {G : List Sl} {σ : St} (h : SlsOk K R F H G σ) (i : Nat) {g : Sl} {v : Option V} (q : SlOk K R F H g v) : SlsOk K R F H (G.set i g) (σ.set i v) := by
  induction h generalizing i with
  | nil => exact .nil
  | cons h t ih =>
    cases i with
    | zero => exact .cons q t
    | succ j => exact .cons h (ih j)
theorem owns_mem {G : List Sl} {σ : St} {o : Addr} (h : o ∈ owns G σ) : ∃ (i : Nat) (d : Dt), G[i]? = some (.ow d) ∧ σ[i]? = some (some (.ref o)) := by
  induction G generalizing σ with
  | nil => simp [owns] at h
  | cons g G ih =>
    cases σ with
    | nil => cases g <;> simp [owns] at h
    | cons v vs =>
      have step : o ∈ owns G vs → ∃ (i : Nat) (d : Dt), (g :: G)[i]? = some (.ow d) ∧ (v :: vs)[i]? = some (some (.ref o)) := fun z => by
        obtain ⟨i, d, h1, h2⟩ := ih z
        exact ⟨i + 1, d, by simpa using h1, by simpa using h2⟩
      cases g with
      | no => exact step (by simpa [owns] using h)
      | sh d => exact step (by simpa [owns] using h)
      | ow d =>
        cases v with
        | none => exact step (by simpa [owns] using h)
        | some x =>
          cases x with
          | ref p =>
            simp only [owns, List.mem_cons] at h
            rcases h with h | h
            · subst h; exact ⟨0, d, rfl, rfl⟩
            · exact step h
          | _ => exact step (by simpa [owns] using h)
theorem mem_owns {G : List Sl} {σ : St} {o : Addr} {i : Nat} {d : Dt} (h1 : G[i]? = some (.ow d)) (h2 : σ[i]? = some (some (.ref o))) : o ∈ owns G σ := by
  induction G generalizing σ i with
  | nil => simp at h1
  | cons g G ih =>
    cases σ with
    | nil => simp at h2
    | cons v vs =>
      cases i with
      | zero =>
        have e1 := Option.some.inj h1
        have e2 := Option.some.inj h2
        subst e1 e2
        simp [owns]
      | succ j =>
        have q : o ∈ owns G vs := ih (i := j) (by simpa using h1) (by simpa using h2)
        cases g with
        | no => simpa [owns] using q
        | sh d => simpa [owns] using q
        | ow d =>
          cases v with
          | none => simpa [owns] using q
          | some x => cases x <;> simp [owns, q]
/-- a slot set to what is not one's own -/
theorem owns_set_sub {G : List Sl} {σ : St} (i : Nat) {g : Sl} {v : Option V} (hg : ∀ d, g ≠ .ow d) : List.Sublist (owns (G.set i g) (σ.set i v)) (owns G σ) := by
  induction G generalizing σ i with
  | nil => simp [owns]
  | cons g0 G ih =>
    cases σ with
    | nil =>
      cases i with
      | zero => simp [owns]
      | succ j => simp [owns]
    | cons v0 vs =>
      cases i with
      | zero =>
        have e : owns (g :: G) (v :: vs) = owns G vs := by
          cases g with
          | no => simp [owns]
          | sh d => simp [owns]
          | ow d => exact absurd rfl (hg d)
        show List.Sublist (owns (g :: G) (v :: vs)) _
        rw [e]
        cases g0 with
        | no => simp [owns]
        | sh d => simp [owns]
        | ow d =>
          cases v0 with
          | none => simp [owns]
          | some x => cases x <;> simp [owns]
      | succ j =>
        have q := ih (σ := vs) (i := j)
        show List.Sublist (owns (g0 :: G.set j g) (v0 :: vs.set j v)) _
        cases g0 with
        | no => simpa [owns] using q
        | sh d => simpa [owns] using q
        | ow d =>
          cases v0 with
          | none => simpa [owns] using q
          | some x => cases x <;> simp [owns, q]
theorem Ty.set {G : List Sl} {σ : St} (h : Ty K R G σ F H) (i : Nat) {d : Dt} {x : V} (q : Rp K F d x) : Ty K R (G.set i (.sh d)) (σ.set i (some x)) F H :=
  ⟨h.wf, h.sl.set i ⟨x, rfl, q⟩, h.nd.sublist (owns_set_sub i fun _ z => nomatch z)⟩
theorem owns_set_own {G : List Sl} {σ : St} (i : Nat) {d : Dt} {o : Addr} : ∀ x ∈ owns (G.set i (.ow d)) (σ.set i (some (.ref o))), x = o ∨ x ∈ owns G σ := fun x hx => by
  obtain ⟨j, d', h1, h2⟩ := owns_mem hx
  by_cases e : j = i
  · subst e
    have hj : j < σ.length := by
      have := (List.getElem?_eq_some_iff.mp h2).1
      simpa using this
    rw [List.getElem?_set_self hj] at h2
    cases h2
    exact .inl rfl
  · rw [List.getElem?_set_ne (Ne.symm e)] at h1 h2
    exact .inr (mem_owns h1 h2)
theorem owns_nodup_set {G : List Sl} {σ : St} (i : Nat) {d : Dt} {o : Addr} (h : (owns G σ).Nodup) (n : o ∉ owns (G.set i .no) (σ.set i none)) : (owns (G.set i (.ow d)) (σ.set i (some (.ref o)))).Nodup := by
  induction G generalizing σ i with
  | nil => simp [owns]
  | cons g0 G ih =>
    cases σ with
    | nil =>
      cases i with
      | zero => simp [owns]
      | succ j => simp [owns]
    | cons v0 vs =>
      have hG : (owns G vs).Nodup := by
        cases g0 with
        | no => simpa [owns] using h
        | sh d => simpa [owns] using h
        | ow d =>
          cases v0 with
          | none => simpa [owns] using h
          | some x =>
            cases x with
            | ref p => simp only [owns, List.nodup_cons] at h; exact h.2
            | _ => simpa [owns] using h
      cases i with
      | zero =>
        show (owns (.ow d :: G) (some (.ref o) :: vs)).Nodup
        simp only [owns, List.nodup_cons]
        exact ⟨by simpa [owns] using n, hG⟩
      | succ j =>
        show (owns (g0 :: G.set j (.ow d)) (v0 :: vs.set j (some (.ref o)))).Nodup
        have n' : o ∉ owns (g0 :: G.set j .no) (v0 :: vs.set j none) := n
        have plain : o ∉ owns (G.set j .no) (vs.set j none) → (owns (G.set j (.ow d)) (vs.set j (some (.ref o)))).Nodup := fun z => ih j hG z
        cases g0 with
        | no => simpa [owns] using plain (by simpa [owns] using n')
        | sh d => simpa [owns] using plain (by simpa [owns] using n')
        | ow d1 =>
          cases v0 with
          | none => simpa [owns] using plain (by simpa [owns] using n')
          | some x =>
            cases x with
            | ref p =>
              simp only [owns, List.mem_cons, not_or] at n'
              simp only [owns, List.nodup_cons] at h ⊢
              refine ⟨fun z => ?_, plain n'.2⟩
              rcases owns_set_own j p z with e | e
              · exact n'.1 e.symm
              · exact h.1 e
            | _ => simpa [owns] using plain (by simpa [owns] using n')
end
end VS
set_option Elab.async false
set_option linter.all false
set_option maxRecDepth 100000
namespace VS
open PySem PySem.Spec L2

/-! ### readings as weak as they can be -/
@[irreducible] def tOf (X : Cx) (e : Expr) : TE := fun σ H Q => ∀ pins s, Inv X pins σ H s → wpAny (model X.prog X.w) X.A (eval e X.env) (EP X pins σ Q) X.xe s
@[irreducible] def ttOf (X : Cx) (e : Expr) : TT := fun σ H Q => ∀ pins s, Inv X pins σ H s → wpAny (model X.prog X.w) X.A (isTrue e X.env (eval e X.env)) (TP X pins σ Q) X.xe s
@[irreducible] def twOf (X : Cx) (e : Expr) : TT := fun σ H Q => ∀ (whole : Sem Value) pins s, Inv X pins σ H s → wpAny (model X.prog X.w) X.A (isTrue e X.env whole) (TP X pins σ Q) X.xe s
@[irreducible] def taOf (X : Cx) (es : List Expr) : TA := fun σ H Q => ∀ (pos : Pos) pins s, Inv X pins σ H s → wpAny (model X.prog X.w) X.A (spliced (backTo pos (starEach es X.env))) (AP X pins σ Q) X.xe s
@[irreducible] def s1Of (X : Cx) (st : Stmt) : TS := fun D σ H => ∀ pins s, Inv X pins σ H s → wpAny (model X.prog X.w) X.A (exec st X.env) (SP X pins D) X.xe s
@[irreducible] def sOf (X : Cx) (ss : List Stmt) : TS := fun D σ H => ∀ pins s, Inv X pins σ H s → wpAny (model X.prog X.w) X.A (execs ss X.env) (SP X pins D) X.xe s
@[irreducible] def opOf (X : Cx) (f : Value → Value → Sem Value) : R2 := fun x y H Q => ∀ pins s σ v u, Inv X pins σ H s → RelV x v → RelV y u → wpAny (model X.prog X.w) X.A (f v u) (EP X pins σ Q) X.xe s
@[irreducible] def unOf (X : Cx) (f : Value → Sem Value) : V → Hp → VK → Prop := fun x H Q => ∀ pins s σ v, Inv X pins σ H s → RelV x v → wpAny (model X.prog X.w) X.A (f v) (EP X pins σ Q) X.xe s
@[irreducible] def crOf (X : Cx) (f : Value) : List V → Hp → VK → Prop := fun xs H Q => ∀ pins s σ us, Inv X pins σ H s → Vals xs us → wpAny (model X.prog X.w) X.A (call f us) (EP X pins σ Q) X.xe s
section
variable {X : Cx}
theorem pe_w {e : Expr} : PE X e (tOf X e) := ⟨fun pins s σ H Q I h => by unfold tOf at h; exact h pins s I⟩
theorem pt_w {e : Expr} : PT X e (ttOf X e) := ⟨fun pins s σ H Q I h => by unfold ttOf at h; exact h pins s I⟩
theorem pw_w {e : Expr} : PW X e (twOf X e) := ⟨fun wh pins s σ H Q I h => by unfold twOf at h; exact h wh pins s I⟩
theorem pa_w {es : List Expr} : PA X es (taOf X es) := ⟨fun pos pins s σ H Q I h => by unfold taOf at h; exact h pos pins s I⟩
theorem ps_w {st : Stmt} : PS X st (s1Of X st) := ⟨fun pins s σ H D I h => by unfold s1Of at h; exact h pins s I⟩
theorem pss_w {ss : List Stmt} : PSs X ss (sOf X ss) := ⟨fun pins s σ H D I h => by unfold sOf at h; exact h pins s I⟩
theorem op_w {f : Value → Value → Sem Value} : OpR X f (opOf X f) := fun pins s σ H x y v u Q I rx ry h => by unfold opOf at h; exact h pins s σ v u I rx ry
theorem un_w {f : Value → Sem Value} : UnR X f (unOf X f) := fun pins s σ H x v Q I rx h => by unfold unOf at h; exact h pins s σ v I rx
theorem cr_w {f : Value} : CallR X f (crOf X f) := fun pins s σ H xs us Q I r h => by unfold crOf at h; exact h pins s σ us I r
theorem tOf.of {e : Expr} {t : TE} {σ : St} {H : Hp} {Q : VK} (h : PE X e t) (q : t σ H Q) : tOf X e σ H Q := by unfold tOf; exact fun pins s I => h.run pins s σ H Q I q
theorem ttOf.of {e : Expr} {t : TT} {σ : St} {H : Hp} {Q : Bool → Hp → Prop} (h : PT X e t) (q : t σ H Q) : ttOf X e σ H Q := by unfold ttOf; exact fun pins s I => h.run pins s σ H Q I q
theorem twOf.of {e : Expr} {t : TT} {σ : St} {H : Hp} {Q : Bool → Hp → Prop} (h : PW X e t) (q : t σ H Q) : twOf X e σ H Q := by unfold twOf; exact fun wh pins s I => h.run wh pins s σ H Q I q
theorem taOf.of {es : List Expr} {t : TA} {σ : St} {H : Hp} {Q : List V → Hp → Prop} (h : PA X es t) (q : t σ H Q) : taOf X es σ H Q := by unfold taOf; exact fun pos pins s I => h.run pos pins s σ H Q I q
theorem s1Of.of {st : Stmt} {t : TS} {σ : St} {H : Hp} {D : Ends} (h : PS X st t) (q : t D σ H) : s1Of X st D σ H := by unfold s1Of; exact fun pins s I => h.run pins s σ H D I q
theorem sOf.of {ss : List Stmt} {t : TS} {σ : St} {H : Hp} {D : Ends} (h : PSs X ss t) (q : t D σ H) : sOf X ss D σ H := by unfold sOf; exact fun pins s I => h.run pins s σ H D I q
theorem opOf.of {f : Value → Value → Sem Value} {r : R2} {x y : V} {H : Hp} {Q : VK} (h : OpR X f r) (q : r x y H Q) : opOf X f x y H Q := by unfold opOf; exact fun pins s σ v u I rx ry => h pins s σ H x y v u Q I rx ry q
theorem unOf.of {f : Value → Sem Value} {r : V → Hp → VK → Prop} {x : V} {H : Hp} {Q : VK} (h : UnR X f r) (q : r x H Q) : unOf X f x H Q := by unfold unOf; exact fun pins s σ v I rx => h pins s σ H x v Q I rx q
theorem crOf.of {f : Value} {r : List V → Hp → VK → Prop} {xs : List V} {H : Hp} {Q : VK} (h : CallR X f r) (q : r xs H Q) : crOf X f xs H Q := by unfold crOf; exact fun pins s σ us I rx => h pins s σ H xs us Q I rx q
end

/-! ### over data -/
/-- what follows, given the value's data -/
def Ct (K : PySem.W.Frag) (R : Reg) (F H : Hp) (P : Dt → Prop) (Q : VK) : Prop := ∀ v F' H' d, Ext R F H F' H' → Rp K F' d v → P d → Q v H'
def CtB (R : Reg) (F H : Hp) (P : Bool → Prop) (Q : Bool → Hp → Prop) : Prop := ∀ b F' H', Ext R F H F' H' → P b → Q b H'
def CtA (K : PySem.W.Frag) (R : Reg) (F H : Hp) (P : List Dt → Prop) (Q : List V → Hp → Prop) : Prop := ∀ vs F' H' ds, Ext R F H F' H' → RpL K F' ds vs → P ds → Q vs H'
def E (X : Cx) (R : Reg) (G : List Sl) (e : Expr) (P : Dt → Prop) : Prop := ∀ σ F H Q, Ty X.K R G σ F H → Ct X.K R F H P Q → tOf X e σ H Q
def T (X : Cx) (R : Reg) (G : List Sl) (e : Expr) (P : Bool → Prop) : Prop := ∀ σ F H Q, Ty X.K R G σ F H → CtB R F H P Q → ttOf X e σ H Q
def TW (X : Cx) (R : Reg) (G : List Sl) (e : Expr) (P : Bool → Prop) : Prop := ∀ σ F H Q, Ty X.K R G σ F H → CtB R F H P Q → twOf X e σ H Q
def EA (X : Cx) (R : Reg) (G : List Sl) (es : List Expr) (P : List Dt → Prop) : Prop := ∀ σ F H Q, Ty X.K R G σ F H → CtA X.K R F H P Q → taOf X es σ H Q
/-- operations on data -/
def W2 (X : Cx) (R : Reg) (f : Value → Value → Sem Value) (a b : Dt) (P : Dt → Prop) : Prop := ∀ F H x y Q, Wf R F H → Rp X.K F a x → Rp X.K F b y → Ct X.K R F H P Q → opOf X f x y H Q
def W1 (X : Cx) (R : Reg) (f : Value → Sem Value) (a : Dt) (P : Dt → Prop) : Prop := ∀ F H x Q, Wf R F H → Rp X.K F a x → Ct X.K R F H P Q → unOf X f x H Q
def WC (X : Cx) (R : Reg) (f : Value) (ds : List Dt) (P : Dt → Prop) : Prop := ∀ F H xs Q, Wf R F H → RpL X.K F ds xs → Ct X.K R F H P Q → crOf X f xs H Q
section
variable {X : Cx} {R : Reg} {G : List Sl} {pos : Pos}
theorem Ct.step {K : PySem.W.Frag} {F H F1 H1 : Hp} {P : Dt → Prop} {Q : VK} (c : Ct K R F H P Q) (e : Ext R F H F1 H1) : Ct K R F1 H1 P Q := fun v F' H' d ex r p => c v F' H' d (e.trans ex) r p
theorem CtB.step {F H F1 H1 : Hp} {P : Bool → Prop} {Q : Bool → Hp → Prop} (c : CtB R F H P Q) (e : Ext R F H F1 H1) : CtB R F1 H1 P Q := fun b F' H' ex p => c b F' H' (e.trans ex) p
theorem Ct.here {K : PySem.W.Frag} {F H : Hp} {P : Dt → Prop} {Q : VK} {v : V} {d : Dt} (c : Ct K R F H P Q) (w : Wf R F H) (r : Rp K F d v) (p : P d) : Q v H := c v F H d (.refl w) r p
theorem CtB.here {F H : Hp} {P : Bool → Prop} {Q : Bool → Hp → Prop} {b : Bool} (c : CtB R F H P Q) (w : Wf R F H) (p : P b) : Q b H := c b F H (.refl w) p
theorem E.imp {e : Expr} {P P' : Dt → Prop} (h : E X R G e P) (i : ∀ d, P d → P' d) : E X R G e P' := fun σ F H Q ty c => h σ F H Q ty fun v F' H' d ex r p => c v F' H' d ex r (i d p)
theorem T.imp {e : Expr} {P P' : Bool → Prop} (h : T X R G e P) (i : ∀ b, P b → P' b) : T X R G e P' := fun σ F H Q ty c => h σ F H Q ty fun b F' H' ex p => c b F' H' ex (i b p)

/-! ### names, constants -/
theorem e_var (i : Nat) {x : Str} {d : Dt} {P : Dt → Prop} (hg : G[i]? = some (.sh d)) (hN : X.N[i]? = some x) (hv : Vis X.env.scope x) (p : P d) (hd : (x == ("__debug__" : Str)) = false := by decide) (hcd : (x == ("__classdict__" : Str)) = false := by decide) :
    E X R G (.Name x pos) P := fun σ F H Q ty c => by
  obtain ⟨v, e1, y, e2, r⟩ := ty.sl.get hg
  exact tOf.of (pe_var hN hv hd hcd) ⟨y, by rw [e1, e2], c.here ty.wf r p⟩
theorem e_int {i : Int} {j} {P : Dt → Prop} (p : P (.int i)) : E X R G (.Constant (.int i) j pos) P := fun σ F H Q ty c => tOf.of pe_int (c.here ty.wf (rp_int.mpr rfl) p)
theorem e_none {j} {P : Dt → Prop} (p : P .non) : E X R G (.Constant .none j pos) P := fun σ F H Q ty c => tOf.of pe_non (c.here ty.wf (rp_non.mpr rfl) p)
theorem e_str {i : Str} {j} {P : Dt → Prop} (p : P (.str i)) : E X R G (.Constant (.str i) j pos) P := fun σ F H Q ty c => tOf.of pe_str (c.here ty.wf (rp_str.mpr rfl) p)
/-- a module's constant that is no object -/
theorem e_glob {x : Str} {d : Dt} {v : V} {u : Value} {P : Dt → Prop} (hg : Gl X x) (hm : X.mg x = some u) (r : RelV v u) (rd : ∀ F, Rp X.K F d v) (p : P d) (hd : (x == ("__debug__" : Str)) = false := by decide) : E X R G (.Name x pos) P :=
  fun σ F H Q ty c => tOf.of (pe_glob hg hm r hd) (c.here ty.wf (rd F) p)

/-! ### operators -/
theorem e_bin {a b : Expr} {op : Operator} {P : Dt → Prop} (h : E X R G a fun d1 => E X R G b fun d2 => W2 X R (binaryOp op) d1 d2 P) : E X R G (.BinOp a op b pos) P := fun σ F H Q ty c =>
  tOf.of (pe_op op_w pe_w pe_w) (h σ F H _ ty fun v F1 H1 d1 ex1 r1 h2 => h2 σ F1 H1 _ (ty.ext ex1) fun w F2 H2 d2 ex2 r2 h3 => h3 F2 H2 v w Q ex2.wf (r1.mono ex2.ff) r2 (c.step (ex1.trans ex2)))
theorem e_un {a : Expr} {op : UnaryOp} {P : Dt → Prop} (h : E X R G a fun d1 => W1 X R (unaryOp op) d1 P) : E X R G (.UnaryOp op a pos) P := fun σ F H Q ty c =>
  tOf.of (pe_un un_w pe_w) (h σ F H _ ty fun v F1 H1 d1 ex1 r1 h2 => h2 F1 H1 v Q ex1.wf r1 (c.step ex1))
theorem e_cmp {a b : Expr} {op : CmpOp} {P : Dt → Prop} (h : E X R G a fun d1 => E X R G b fun d2 => W2 X R (compareOp op) d1 d2 P) (hm : behindInMarks op b = false := by first | exact nomark _ | rfl) : E X R G (.Compare a [op] [b] pos) P := fun σ F H Q ty c =>
  tOf.of (pe_cmpR op_w pe_w pe_w hm) (h σ F H _ ty fun v F1 H1 d1 ex1 r1 h2 => h2 σ F1 H1 _ (ty.ext ex1) fun w F2 H2 d2 ex2 r2 h3 => h3 F2 H2 v w Q ex2.wf (r1.mono ex2.ff) r2 (c.step (ex1.trans ex2)))
theorem t_cmp {a b : Expr} {op : CmpOp} {P : Bool → Prop} (h : E X R G a fun d1 => E X R G b fun d2 => W2 X R (compareOp op) d1 d2 fun d => ∃ k, d = .bl k ∧ P k) (hm : behindInMarks op b = false := by first | exact nomark _ | rfl) : T X R G (.Compare a [op] [b] pos) P := fun σ F H Q ty c =>
  ttOf.of (pt_cmpR op_w pe_w pe_w hm) (h σ F H _ ty fun v F1 H1 d1 ex1 r1 h2 => h2 σ F1 H1 _ (ty.ext ex1) fun w F2 H2 d2 ex2 r2 h3 => h3 F2 H2 v w _ ex2.wf (r1.mono ex2.ff) r2 fun z F3 H3 d3 ex3 r3 ⟨k, e, p⟩ => by
    subst e
    exact ⟨k, rp_bl.mp r3, c k F3 H3 ((ex1.trans ex2).trans ex3) p⟩)
/-- a op1 b op2 c -/
theorem e_chain {a b c : Expr} {op op' : CmpOp} {P : Dt → Prop} (h : E X R G a fun d1 => E X R G b fun d2 => W2 X R (compareOp op) d1 d2 fun d => ∃ k, d = .bl k ∧ if k = true then E X R G c fun d3 => W2 X R (compareOp op') d2 d3 P else P (.bl false))
    (hm : lastMarks [op, op'] [b, c] = false := by with_unfolding_all rfl) : E X R G (.Compare a [op, op'] [b, c] pos) P := fun σ F H Q ty cc =>
  tOf.of (pe_chain op_w op_w pe_w pe_w pe_w hm) (h σ F H _ ty fun v F1 H1 d1 ex1 r1 h2 => h2 σ F1 H1 _ (ty.ext ex1) fun w F2 H2 d2 ex2 r2 h3 => h3 F2 H2 v w _ ex2.wf (r1.mono ex2.ff) r2 fun z F3 H3 d3 ex3 r3 ⟨k, e, p⟩ => by
    subst e
    have e12 := ex1.trans ex2
    have e123 := e12.trans ex3
    refine ⟨k, rp_bl.mp r3, ?_⟩
    cases k with
    | false =>
      rw [if_neg (by decide)] at p ⊢
      exact cc _ F3 H3 _ e123 (rp_bl.mpr rfl) p
    | true =>
      rw [if_pos rfl] at p ⊢
      exact p σ F3 H3 _ (ty.ext e123) fun u F4 H4 d4 ex4 r4 p4 => p4 F4 H4 w u Q ex4.wf ((r2.mono ex3.ff).mono ex4.ff) r4 (cc.step (e123.trans ex4)))
theorem t_chain {a b c : Expr} {op op' : CmpOp} {P : Bool → Prop} (h : E X R G a fun d1 => E X R G b fun d2 => W2 X R (compareOp op) d1 d2 fun d => ∃ k, d = .bl k ∧ if k = true then E X R G c fun d3 => W2 X R (compareOp op') d2 d3 fun d => ∃ k, d = .bl k ∧ P k else P false)
    (hm : lastMarks [op, op'] [b, c] = false := by with_unfolding_all rfl) : T X R G (.Compare a [op, op'] [b, c] pos) P := fun σ F H Q ty cc =>
  ttOf.of (pt_chain op_w op_w pe_w pe_w pe_w hm) (h σ F H _ ty fun v F1 H1 d1 ex1 r1 h2 => h2 σ F1 H1 _ (ty.ext ex1) fun w F2 H2 d2 ex2 r2 h3 => h3 F2 H2 v w _ ex2.wf (r1.mono ex2.ff) r2 fun z F3 H3 d3 ex3 r3 ⟨k, e, p⟩ => by
    subst e
    have e12 := ex1.trans ex2
    have e123 := e12.trans ex3
    refine ⟨k, rp_bl.mp r3, ?_⟩
    cases k with
    | false =>
      rw [if_neg (by decide)] at p ⊢
      exact ⟨false, rfl, cc false F3 H3 e123 p⟩
    | true =>
      rw [if_pos rfl] at p ⊢
      exact p σ F3 H3 _ (ty.ext e123) fun u F4 H4 d4 ex4 r4 p4 => p4 F4 H4 w u _ ex4.wf ((r2.mono ex3.ff).mono ex4.ff) r4 fun z F5 H5 d5 ex5 r5 ⟨k, e, p⟩ => by
        subst e
        exact ⟨k, rp_bl.mp r5, cc k F5 H5 ((e123.trans ex4).trans ex5) p⟩)

/-! ### tests -/
theorem t_val {e : Expr} {P : Bool → Prop} (h : E X R G e fun d => ∃ k, d = .bl k ∧ P k) (he : ∀ whole, isTrue e X.env whole = (do let v ← whole; standAt e.pos; holding [v] (truthy v)) := by intro _; rfl) : T X R G e P := fun σ F H Q ty c =>
  ttOf.of (pt_val pe_w he) (h σ F H _ ty fun v F1 H1 d1 ex1 r1 ⟨k, e, p⟩ => by
    subst e
    exact ⟨k, rp_bl.mp r1, c k F1 H1 ex1 p⟩)
theorem TW.t {e : Expr} {P : Bool → Prop} (h : TW X R G e P) : T X R G e P := fun σ F H Q ty c => by
  have z := h σ F H Q ty c
  unfold twOf at z
  unfold ttOf
  exact fun pins s I => z _ pins s I
theorem tw_and1 {a : Expr} {P : Bool → Prop} (h : T X R G a P) : TW X R G (.BoolOp .And [a] pos) P := fun σ F H Q ty c => twOf.of (pw_and1 pt_w) (h σ F H Q ty c)
theorem tw_or1 {a : Expr} {P : Bool → Prop} (h : T X R G a P) : TW X R G (.BoolOp .Or [a] pos) P := fun σ F H Q ty c => twOf.of (pw_or1 pt_w) (h σ F H Q ty c)
theorem tw_and {a b : Expr} {es : List Expr} {P : Bool → Prop} (h : T X R G a fun k => if k = true then TW X R G (.BoolOp .And (b :: es) pos) P else P false) : TW X R G (.BoolOp .And (a :: b :: es) pos) P := fun σ F H Q ty c =>
  twOf.of (pw_and pt_w pw_w) (h σ F H _ ty fun k F1 H1 ex1 p => by
    cases k with
    | false => rw [if_neg (by decide)] at p ⊢; exact c false F1 H1 ex1 p
    | true => rw [if_pos rfl] at p ⊢; exact p σ F1 H1 Q (ty.ext ex1) (c.step ex1))
theorem tw_or {a b : Expr} {es : List Expr} {P : Bool → Prop} (h : T X R G a fun k => if k = true then P true else TW X R G (.BoolOp .Or (b :: es) pos) P) : TW X R G (.BoolOp .Or (a :: b :: es) pos) P := fun σ F H Q ty c =>
  twOf.of (pw_or pt_w pw_w) (h σ F H _ ty fun k F1 H1 ex1 p => by
    cases k with
    | true => rw [if_pos rfl] at p ⊢; exact c true F1 H1 ex1 p
    | false => rw [if_neg (by decide)] at p ⊢; exact p σ F1 H1 Q (ty.ext ex1) (c.step ex1))
theorem t_not {a : Expr} {P : Bool → Prop} (h : T X R G a fun k => P (!k)) : T X R G (.UnaryOp .Not a pos) P := fun σ F H Q ty c =>
  ttOf.of (pt_not pt_w) (h σ F H _ ty fun k F1 H1 ex1 p => c _ F1 H1 ex1 p)
/-- and, or, not as values -/
theorem e_and {a b : Expr} {es : List Expr} {P : Dt → Prop} (h : E X R G a fun d => ∃ k, d = .bl k ∧ if k = true then E X R G (.BoolOp .And (b :: es) pos) P else P (.bl false)) : E X R G (.BoolOp .And (a :: b :: es) pos) P := fun σ F H Q ty c =>
  tOf.of (pe_and pe_w pe_w) (h σ F H _ ty fun v F1 H1 d1 ex1 r1 ⟨k, e, p⟩ => by
    subst e
    refine ⟨k, rp_bl.mp r1, ?_⟩
    cases k with
    | false => rw [if_neg (by decide)] at p ⊢; exact c _ F1 H1 _ ex1 (rp_bl.mpr rfl) p
    | true => rw [if_pos rfl] at p ⊢; exact p σ F1 H1 Q (ty.ext ex1) (c.step ex1))
theorem e_one {op} {a : Expr} {P : Dt → Prop} (h : E X R G a P) : E X R G (.BoolOp op [a] pos) P := fun σ F H Q ty c => tOf.of (pe_one pe_w) (h σ F H Q ty c)
/-! ### arguments, displays -/
theorem ea_nil {P : List Dt → Prop} (p : P []) : EA X R G [] P := fun σ F H Q ty c => taOf.of pa_nil (c [] F H [] (.refl ty.wf) .nil p)
theorem ea_cons {e : Expr} {es : List Expr} {P : List Dt → Prop} (h : E X R G e fun d => EA X R G es fun ds => P (d :: ds)) (hs : starEach (e :: es) X.env = (false, eval e X.env) :: starEach es X.env := by rfl) : EA X R G (e :: es) P := fun σ F H Q ty c =>
  taOf.of (pa_cons pe_w pa_w hs) (h σ F H _ ty fun v F1 H1 d1 ex1 r1 h2 => h2 σ F1 H1 _ (ty.ext ex1) fun vs F2 H2 ds ex2 r2 p => c _ F2 H2 _ (ex1.trans ex2) (.cons (r1.mono ex2.ff) r2) p)
theorem rp_tup_new {K : PySem.W.Frag} {F : Hp} {p : Addr} {ds : List Dt} {vs : List V} (hn : F p = none) (r : RpL K F ds vs) : Rp K (upd F p (.tup vs)) (.tup ds) (.ref p) :=
  rp_tup.mpr ⟨p, vs, rfl, SqT.of upd_same, r.mono (same_upd hn)⟩
theorem rp_lst_new {K : PySem.W.Frag} {F : Hp} {p : Addr} {ds : List Dt} {vs : List V} (hn : F p = none) (r : RpL K F ds vs) : Rp K (upd F p (.lst vs)) (.lst ds) (.ref p) :=
  rp_lst.mpr ⟨p, vs, rfl, upd_same, r.mono (same_upd hn)⟩
theorem e_tup {es : List Expr} {x1} {P : Dt → Prop} (h : EA X R G es fun ds => ds.length ≤ 100000 ∧ P (.tup ds)) : E X R G (.Tuple es x1 pos) P := fun σ F H Q ty c =>
  tOf.of (pe_tup pa_w) (h σ F H _ ty fun vs F1 H1 ds ex1 r1 ⟨hl, p⟩ => ⟨by rw [← r1.length]; exact Nat.le_trans hl (by decide), fun q hq => c _ _ _ _ (ex1.trans (ex1.wf.made hq)) (rp_tup_new (ex1.wf.fh.free hq) r1) p⟩)
theorem e_lst {es : List Expr} {P : Dt → Prop} (h : EA X R G es fun ds => ds.length ≤ 100000 ∧ P (.lst ds)) : E X R G (.List es pos) P := fun σ F H Q ty c =>
  tOf.of (pe_lst pa_w) (h σ F H _ ty fun vs F1 H1 ds ex1 r1 ⟨hl, p⟩ => ⟨by rw [← r1.length]; exact Nat.le_trans hl (by decide), fun q hq => c _ _ _ _ (ex1.trans (ex1.wf.made hq)) (rp_lst_new (ex1.wf.fh.free hq) r1) p⟩)

/-! ### the operations -/
theorem w2_int {f : Value → Value → Sem Value} {C : Int → Int → Prop} {g : Int → Int → Int} {i j : Int} {P : Dt → Prop} (ho : OpR X f (rI C fun i j => .int (g i j))) (hc : C i j) (p : P (.int (g i j))) : W2 X R f (.int i) (.int j) P := fun F H x y Q w rx ry c =>
  opOf.of ho ⟨i, j, rp_int.mp rx, rp_int.mp ry, hc, c.here w (rp_int.mpr rfl) p⟩
theorem w2_int0 {f : Value → Value → Sem Value} {g : Int → Int → Int} {i j : Int} {P : Dt → Prop} (ho : OpR X f (rI0 fun i j => .int (g i j))) (p : P (.int (g i j))) : W2 X R f (.int i) (.int j) P := fun F H x y Q w rx ry c =>
  opOf.of ho ⟨i, j, rp_int.mp rx, rp_int.mp ry, c.here w (rp_int.mpr rfl) p⟩
theorem w2_bl0 {f : Value → Value → Sem Value} {g : Int → Int → Bool} {i j : Int} {P : Dt → Prop} (ho : OpR X f (rI0 fun i j => .bl (g i j))) (p : P (.bl (g i j))) : W2 X R f (.int i) (.int j) P := fun F H x y Q w rx ry c =>
  opOf.of ho ⟨i, j, rp_int.mp rx, rp_int.mp ry, c.here w (rp_bl.mpr rfl) p⟩
theorem w_add {i j : Int} {P : Dt → Prop} (p : P (.int (i + j))) : W2 X R (binaryOp .Add) (.int i) (.int j) P := w2_int0 op_add p
theorem w_sub {i j : Int} {P : Dt → Prop} (p : P (.int (i - j))) : W2 X R (binaryOp .Sub) (.int i) (.int j) P := w2_int0 op_sub p
/-- the sizes of ints: below 2 ^ 400000 -/
def Sm (n : Nat) (i : Int) : Prop := i.natAbs < 2 ^ n
theorem w_mulS {i j : Int} {P : Dt → Prop} (hc : CMul i j) (p : P (.int (i * j))) : W2 X R (binaryOp .Mult) (.int i) (.int j) P := w2_int op_mul hc p
theorem w_mod {i j : Int} {P : Dt → Prop} (hc : 0 < j) (p : P (.int (i % j))) : W2 X R (binaryOp .Mod) (.int i) (.int j) P := w2_int op_mod hc p
theorem w_div {i j : Int} {P : Dt → Prop} (hc : CDivW i j) (p : P (.int (i / j))) : W2 X R (binaryOp .FloorDiv) (.int i) (.int j) P := w2_int op_fdivW hc p
/-- // by any divisor but 0 below 2 ^ 9000 -/
def CDivA (_ j : Int) : Prop := j ≠ 0 ∧ j.natAbs.log2 < 9000
theorem op_fdivA : OpR X (binaryOp .FloorDiv) (rI CDivA fun i j => .int (i.fdiv j)) := opI fun i j _ _ _ _ _ hc q => PyProof.Rows.floordiv_int hc.1 q (.inl (PyProof.noPylong_of_log2 hc.2))
theorem w_divA {i j : Int} {P : Dt → Prop} (hc : CDivA i j) (p : P (.int (i.fdiv j))) : W2 X R (binaryOp .FloorDiv) (.int i) (.int j) P := w2_int op_fdivA hc p
theorem w_pow {i j : Int} {P : Dt → Prop} (hc : CPow i j) (p : P (.int (i ^ j.toNat))) : W2 X R (binaryOp .Pow) (.int i) (.int j) P := w2_int op_pow hc p
theorem w_neg {i : Int} {P : Dt → Prop} (p : P (.int (-i))) : W1 X R (unaryOp .USub) (.int i) P := fun F H x Q w rx c => unOf.of un_neg ⟨i, rp_int.mp rx, c.here w (rp_int.mpr rfl) p⟩
theorem w_lt {i j : Int} {P : Dt → Prop} (p : P (.bl (decide (i < j)))) : W2 X R (compareOp .Lt) (.int i) (.int j) P := w2_bl0 op_lt p
theorem w_le {i j : Int} {P : Dt → Prop} (p : P (.bl (decide (i ≤ j)))) : W2 X R (compareOp .LtE) (.int i) (.int j) P := w2_bl0 op_le p
theorem w_gt {i j : Int} {P : Dt → Prop} (p : P (.bl (decide (j < i)))) : W2 X R (compareOp .Gt) (.int i) (.int j) P := w2_bl0 op_gt p
theorem w_ge {i j : Int} {P : Dt → Prop} (p : P (.bl (decide (j ≤ i)))) : W2 X R (compareOp .GtE) (.int i) (.int j) P := w2_bl0 op_ge p
/-- the scalars -/
def scV : Dt → Option V
  | .non => some .non | .bl b => some (.bl b) | .int i => some (.int i) | .str x => some (.str x) | _ => none
theorem rp_sc {K : PySem.W.Frag} {F : Hp} {d : Dt} {v x : V} (h : scV d = some v) (r : Rp K F d x) : x = v := by
  cases d with
  | non => cases h; exact rp_non.mp r
  | bl b => cases h; exact rp_bl.mp r
  | int i => cases h; exact rp_int.mp r
  | str s => cases h; exact rp_str.mp r
  | _ => cases h
theorem w_eqS {a b : Dt} {u v : V} {P : Dt → Prop} (ha : scV a = some u) (hb : scV b = some v) (hs : scal u v = true) (p : P (.bl (decide (u = v)))) : W2 X R (compareOp .Eq) a b P := fun F H x y Q w rx ry c => by
  rw [rp_sc ha rx, rp_sc hb ry]
  exact opOf.of op_eq ⟨hs, c.here w (rp_bl.mpr rfl) p⟩
theorem w_neS {a b : Dt} {u v : V} {P : Dt → Prop} (ha : scV a = some u) (hb : scV b = some v) (hs : scal u v = true) (p : P (.bl (!decide (u = v)))) : W2 X R (compareOp .NotEq) a b P := fun F H x y Q w rx ry c => by
  rw [rp_sc ha rx, rp_sc hb ry]
  exact opOf.of op_ne ⟨hs, c.here w (rp_bl.mpr rfl) p⟩
theorem vint_eq {i j : Int} : decide (V.int i = V.int j) = decide (i = j) := by
  rw [Bool.eq_iff_iff]
  simp
theorem vstr_eq {i j : Str} : decide (V.str i = V.str j) = decide (i = j) := by
  rw [Bool.eq_iff_iff]
  simp
theorem w_eqI {i j : Int} {P : Dt → Prop} (p : P (.bl (decide (i = j)))) : W2 X R (compareOp .Eq) (.int i) (.int j) P := w_eqS (u := .int i) (v := .int j) rfl rfl rfl (by rw [vint_eq]; exact p)
theorem w_neI {i j : Int} {P : Dt → Prop} (p : P (.bl (!decide (i = j)))) : W2 X R (compareOp .NotEq) (.int i) (.int j) P := w_neS (u := .int i) (v := .int j) rfl rfl rfl (by rw [vint_eq]; exact p)
theorem w_eqT {i j : Str} {P : Dt → Prop} (p : P (.bl (decide (i = j)))) : W2 X R (compareOp .Eq) (.str i) (.str j) P := w_eqS (u := .str i) (v := .str j) rfl rfl rfl (by rw [vstr_eq]; exact p)
/-! ### subscripts -/
@[irreducible] def ixOf (X : Cx) : R2 := fun x y H Q => ∀ (value slice : Expr) pins s σ v u, Inv X pins σ H s → RelV x v → RelV y u → subscripted slice false v u = operate [v, u] (getItem v u) → wpAny (model X.prog X.w) X.A (PyProof.Rows.subscriptTail value slice v u) (EP X pins σ Q) X.xe s
theorem ix_w : IxR X (ixOf X) := fun value slice pins s σ H x y v u Q I rx ry h hs => by unfold ixOf at h; exact h value slice pins s σ v u I rx ry hs
theorem ixOf.of {r : R2} {x y : V} {H : Hp} {Q : VK} (h : IxR X r) (q : r x y H Q) : ixOf X x y H Q := by unfold ixOf; exact fun value slice pins s σ v u I rx ry hs => h value slice pins s σ H x y v u Q I rx ry q hs
def WI (X : Cx) (R : Reg) (a b : Dt) (P : Dt → Prop) : Prop := ∀ F H x y Q, Wf R F H → Rp X.K F a x → Rp X.K F b y → Ct X.K R F H P Q → ixOf X x y H Q
theorem e_ix {a b : Expr} {P : Dt → Prop} (h : E X R G a fun d1 => E X R G b fun d2 => WI X R d1 d2 P) (hs : PlainIx b := by intro _ _; rfl) : E X R G (.Subscript a b pos) P := fun σ F H Q ty c =>
  tOf.of (pe_ix ix_w pe_w pe_w hs) (h σ F H _ ty fun v F1 H1 d1 ex1 r1 h2 => h2 σ F1 H1 _ (ty.ext ex1) fun w F2 H2 d2 ex2 r2 h3 => h3 F2 H2 v w Q ex2.wf (r1.mono ex2.ff) r2 (c.step (ex1.trans ex2)))
theorem RpL.at {K : PySem.W.Frag} {F : Hp} {ds : List Dt} {vs : List V} {i : Int} {d : Dt} (r : RpL K F ds vs) (h : atI ds i = some d) : ∃ v, atI vs i = some v ∧ Rp K F d v := by
  unfold atI at h ⊢
  rw [← r.length]
  cases q : ixN ds.length i with
  | none => rw [q] at h; simp at h
  | some j =>
    rw [q] at h
    simp only [Option.bind_some] at h ⊢
    exact r.get h
theorem wi_tup {ds : List Dt} {i : Int} {d : Dt} {P : Dt → Prop} (h : atI ds i = some d) (p : P d) : WI X R (.tup ds) (.int i) P := fun F H x y Q w rx ry c => by
  obtain ⟨a, vs, rfl, sq, rl⟩ := rp_tup.mp rx
  obtain ⟨v, e, r⟩ := rl.at h
  exact ixOf.of ix_tup ⟨a, vs, i, v, rfl, rp_int.mp ry, sq_t w.fh sq, e, c.here w r p⟩
theorem wi_lst {ds : List Dt} {i : Int} {d : Dt} {P : Dt → Prop} (h : atI ds i = some d) (p : P d) : WI X R (.lst ds) (.int i) P := fun F H x y Q w rx ry c => by
  obtain ⟨a, vs, rfl, sq, rl⟩ := rp_lst.mp rx
  obtain ⟨v, e, r⟩ := rl.at h
  exact ixOf.of ix_list ⟨a, vs, i, v, rfl, rp_int.mp ry, SqL.of (w.fh _ _ sq), e, c.here w r p⟩
theorem wi_str {z : Str} {i : Int} {k : Nat} {P : Dt → Prop} (hz : z.length ≤ sizeLine) (h : atI z.cps.toList i = some k) (p : P (.str ⟨#[k]⟩)) : WI X R (.str z) (.int i) P := fun F H x y Q w rx ry c =>
  ixOf.of ix_str ⟨z, i, k, rp_str.mp rx, rp_int.mp ry, hz, h, c.here w (rp_str.mpr rfl) p⟩
theorem wi_tup0 {d : Dt} {ds : List Dt} {P : Dt → Prop} (p : P d) : WI X R (.tup (d :: ds)) (.int 0) P := wi_tup (atI_nat (j := 0) rfl) p
theorem wi_tup1 {d e : Dt} {ds : List Dt} {P : Dt → Prop} (p : P e) : WI X R (.tup (d :: e :: ds)) (.int 1) P := wi_tup (atI_nat (j := 1) rfl) p
/-! ### calls of what the machine brings -/
theorem e_callB {x : Str} {id : String} {e : Expr} {es : List Expr} {p : Pos} {P : Dt → Prop} (hg : Gl X x) (hm : X.mg x = none) (hv : bootBuiltins x = some (.builtin id)) (h : EA X R G (e :: es) fun ds => WC X R (.builtin id) ds P)
    (hn : x ≠ "__name__" := by decide) (hdb : (x == ("__debug__" : Str)) = false := by decide) (he : starEach (e :: es) X.env = (false, eval e X.env) :: starEach es X.env := by rfl) (hpl : (backTo pos (starEach es X.env)).any (·.1) = false := by rfl) : E X R G (.Call (.Name x p) (e :: es) [] pos) P := fun σ F H Q ty c =>
  tOf.of (pe_callB cr_w hg hm hv pa_w hn hdb he hpl) (h σ F H _ ty fun vs F1 H1 ds ex1 r1 h2 => h2 F1 H1 vs Q ex1.wf r1 (c.step ex1))
theorem e_callTy {x : Str} {id : String} {e : Expr} {es : List Expr} {p : Pos} {P : Dt → Prop} (hg : Gl X x) (hm : X.mg x = none) (hv : bootBuiltins x = some (.type id)) (h : EA X R G (e :: es) fun ds => WC X R (.type id) ds P)
    (hn : x ≠ "__name__" := by decide) (hdb : (x == ("__debug__" : Str)) = false := by decide) (he : starEach (e :: es) X.env = (false, eval e X.env) :: starEach es X.env := by rfl) (hpl : (backTo pos (starEach es X.env)).any (·.1) = false := by rfl) : E X R G (.Call (.Name x p) (e :: es) [] pos) P := fun σ F H Q ty c =>
  tOf.of (pe_callTy cr_w hg hm hv pa_w hn hdb he hpl) (h σ F H _ ty fun vs F1 H1 ds ex1 r1 h2 => h2 F1 H1 vs Q ex1.wf r1 (c.step ex1))
theorem RpL.one {K : PySem.W.Frag} {F : Hp} {d : Dt} {vs : List V} (h : RpL K F [d] vs) : ∃ v, vs = [v] ∧ Rp K F d v := by
  obtain ⟨v, r, rfl, h1, h2⟩ := h.of_cons
  rw [h2.of_nil]
  exact ⟨v, rfl, h1⟩
theorem RpL.two {K : PySem.W.Frag} {F : Hp} {d e : Dt} {vs : List V} (h : RpL K F [d, e] vs) : ∃ v w, vs = [v, w] ∧ Rp K F d v ∧ Rp K F e w := by
  obtain ⟨v, r, rfl, h1, h2⟩ := h.of_cons
  obtain ⟨w, rfl, h3⟩ := h2.one
  exact ⟨v, w, rfl, h1, h3⟩
def iabs (i : Int) : Int := if i < 0 then -i else i
theorem iabs_eq (i : Int) : iabs i = (i.natAbs : Int) := by
  unfold iabs
  split <;> omega
theorem wc_abs {i : Int} {P : Dt → Prop} (p : P (.int (i.natAbs : Int))) : WC X R (.builtin "abs") [.int i] P := fun F H xs Q w r c => by
  obtain ⟨v, rfl, h1⟩ := r.one
  rw [rp_int.mp h1]
  refine crOf.of call_abs ⟨i, rfl, ?_⟩
  have q := c.here w (rp_int.mpr rfl) (v := .int (iabs i)) (d := .int (iabs i)) (by rw [iabs_eq]; exact p)
  exact q
theorem wc_int {i : Int} {P : Dt → Prop} (p : P (.int i)) : WC X R (.type "int") [.int i] P := fun F H xs Q w r c => by
  obtain ⟨v, rfl, h1⟩ := r.one
  rw [rp_int.mp h1]
  exact crOf.of call_int1 (.inl ⟨i, rfl, c.here w (rp_int.mpr rfl) p⟩)
theorem wc_len_lst {ds : List Dt} {P : Dt → Prop} (p : P (.int (ds.length : Int))) : WC X R (.builtin "len") [.lst ds] P := fun F H xs Q w r c => by
  obtain ⟨v, rfl, h1⟩ := r.one
  obtain ⟨a, vs, rfl, sq, rl⟩ := rp_lst.mp h1
  refine crOf.of call_len_seq ⟨a, vs, rfl, .inl (SqL.of (w.fh _ _ sq)), ?_⟩
  exact c.here w (d := .int (ds.length : Int)) (rp_int.mpr (by rw [rl.length])) p
theorem wc_len_tup {ds : List Dt} {P : Dt → Prop} (p : P (.int (ds.length : Int))) : WC X R (.builtin "len") [.tup ds] P := fun F H xs Q w r c => by
  obtain ⟨v, rfl, h1⟩ := r.one
  obtain ⟨a, vs, rfl, sq, rl⟩ := rp_tup.mp h1
  refine crOf.of call_len_seq ⟨a, vs, rfl, .inr (sq_t w.fh sq), ?_⟩
  exact c.here w (d := .int (ds.length : Int)) (rp_int.mpr (by rw [rl.length])) p
end
end VS
set_option Elab.async false
set_option linter.all false
set_option maxRecDepth 100000
namespace VS
open PySem PySem.Spec L2

/-! ### statements over data -/
structure Kt where
  nx : List Sl → Prop
  rt : Dt → Prop
  rn : Dt → Prop := fun _ => False
  bk : List Sl → Prop := fun _ => False
  ct : List Sl → Prop := fun _ => False
/-- from the entry F0, H0 on -/
structure Bs (R : Reg) (F0 H0 : Hp) (G : List Sl) (σ : St) (F H : Hp) : Prop where
  ext : Ext R F0 H0 F H
  fresh : ∀ o ∈ owns G σ, H0 o = none
  z : R.Z F0 H0
structure KOk (K : PySem.W.Frag) (R : Reg) (F0 H0 : Hp) (k : Kt) (D : Ends) : Prop where
  nx : ∀ G σ F H, k.nx G → Ty K R G σ F H → Bs R F0 H0 G σ F H → D.nx σ H
  rt : ∀ d v F H, k.rt d → Ext R F0 H0 F H → Rp K F d v → D.rt v H
  rn : ∀ d p F H, k.rn d → Ext R F0 H0 F H → H0 p = none → F p = none → OwO K F H p d → D.rt (.ref p) H
  bk : ∀ G σ F H, k.bk G → Ty K R G σ F H → Bs R F0 H0 G σ F H → D.bk σ H
  ct : ∀ G σ F H, k.ct G → Ty K R G σ F H → Bs R F0 H0 G σ F H → D.ct σ H
def S (X : Cx) (R : Reg) (ss : List Stmt) (G : List Sl) (k : Kt) : Prop := ∀ F0 H0 σ F H D, Ty X.K R G σ F H → Bs R F0 H0 G σ F H → KOk X.K R F0 H0 k D → sOf X ss D σ H
def S1 (X : Cx) (R : Reg) (st : Stmt) (G : List Sl) (k : Kt) : Prop := ∀ F0 H0 σ F H D, Ty X.K R G σ F H → Bs R F0 H0 G σ F H → KOk X.K R F0 H0 k D → s1Of X st D σ H
section
variable {X : Cx} {R : Reg} {G : List Sl} {pos : Pos} {k : Kt} {F0 H0 F H F1 H1 : Hp} {σ : St}
theorem Bs.step (b : Bs R F0 H0 G σ F H) (e : Ext R F H F1 H1) : Bs R F0 H0 G σ F1 H1 := ⟨b.ext.trans e, b.fresh, b.z⟩
/-- the entry moved on to where F stands -/
theorem Bs.here (b : Bs R F0 H0 G σ F H) : Bs R F H0 G σ F H := ⟨⟨b.ext.wf, .refl _, b.ext.hh, fun _ _ h => h⟩, b.fresh, R.zs _ _ _ b.ext.ff b.ext.fr b.z⟩
theorem Ext.back (a : Ext R F0 H0 F H) (b : Ext R F H0 F1 H1) : Ext R F0 H0 F1 H1 := ⟨b.wf, a.ff.trans b.ff, b.hh, fun x h n => b.fr x h (a.fr x h n)⟩
theorem Bs.back {G1 : List Sl} {σ1 : St} (a : Ext R F0 H0 F H) (b : Bs R F H0 G1 σ1 F1 H1) (hz : R.Z F0 H0) : Bs R F0 H0 G1 σ1 F1 H1 := ⟨a.back b.ext, b.fresh, hz⟩
theorem KOk.here {D : Ends} (c : KOk X.K R F0 H0 k D) (a : Ext R F0 H0 F H) (hz : R.Z F0 H0) : KOk X.K R F H0 k D :=
  ⟨fun G σ F1 H1 h ty b => c.nx G σ F1 H1 h ty (b.back a hz), fun d v F1 H1 h e r => c.rt d v F1 H1 h (a.back e) r, fun d p F1 H1 h e => c.rn d p F1 H1 h (a.back e), fun G σ F1 H1 h ty b => c.bk G σ F1 H1 h ty (b.back a hz), fun G σ F1 H1 h ty b => c.ct G σ F1 H1 h ty (b.back a hz)⟩

theorem s_nil (h : k.nx G) : S X R [] G k := fun F0 H0 σ F H D ty b c => sOf.of pss_nil (c.nx G σ F H h ty b)
theorem s_cons {st : Stmt} {ss : List Stmt} (h : S1 X R st G { k with nx := fun G' => S X R ss G' k }) : S X R (st :: ss) G k := fun F0 H0 σ F H D ty b c =>
  sOf.of (pss_cons ps_w pss_w) (h F0 H0 σ F H _ ty b ⟨fun G' σ' F' H' h' ty' b' => h' F0 H0 σ' F' H' D ty' b' c, c.rt, c.rn, c.bk, c.ct⟩)
theorem s_one {st : Stmt} (h : S1 X R st G k) : S X R [st] G k := fun F0 H0 σ F H D ty b c => sOf.of (pss_one ps_w) (h F0 H0 σ F H D ty b c)
/-- a word between a statement and the rest -/
theorem s_cut {st : Stmt} {ss : List Stmt} (M : List Sl → Prop) (h : S1 X R st G { k with nx := M }) (h2 : ∀ G', M G' → S X R ss G' k) : S X R (st :: ss) G k := fun F0 H0 σ F H D ty b c =>
  sOf.of (pss_cons ps_w pss_w) (h F0 H0 σ F H _ ty b ⟨fun G' σ' F' H' h' ty' b' => h2 G' h' F0 H0 σ' F' H' D ty' b' c, c.rt, c.rn, c.bk, c.ct⟩)
theorem S.imp {ss : List Stmt} {k' : Kt} (h : S X R ss G k) (h1 : ∀ G, k.nx G → k'.nx G) (h2 : ∀ d, k.rt d → k'.rt d) (h2n : ∀ d, k.rn d → k'.rn d) (h3 : ∀ G, k.bk G → k'.bk G) (h4 : ∀ G, k.ct G → k'.ct G) : S X R ss G k' := fun F0 H0 σ F H D ty b c =>
  h F0 H0 σ F H D ty b ⟨fun G σ F H z => c.nx G σ F H (h1 G z), fun d v F H z => c.rt d v F H (h2 d z), fun d p F H z => c.rn d p F H (h2n d z), fun G σ F H z => c.bk G σ F H (h3 G z), fun G σ F H z => c.ct G σ F H (h4 G z)⟩
theorem Bs.set (b : Bs R F0 H0 G σ F H) (i : Nat) {d : Dt} {x : V} : Bs R F0 H0 (G.set i (.sh d)) (σ.set i (some x)) F H := ⟨b.ext, fun o ho => b.fresh o ((owns_set_sub (g := .sh d) (v := some x) i (fun _ z => nomatch z)).subset ho), b.z⟩

/-- name = e -/
theorem s_asg (i : Nat) {x : Str} {e : Expr} {pos' : Pos} (hN : X.N.Nodup) (hi : X.N[i]? = some x) (hx : Loc X.env.scope x) (h : E X R G e fun d => k.nx (G.set i (.sh d)))
    (hs : swapsWith e (some (.Name x pos')) pos.line X.env = pure false := by rfl) (hf : X.fn x = true ∨ X.env.scope.names.lookup x = some .local := by first | exact .inl rfl | exact .inr rfl | assumption) : S1 X R (.Assign [.Name x pos'] e pos) G k := fun F0 H0 σ F H D ty b c =>
  s1Of.of (ps_set hN hi hx pe_w hs hf) (h σ F H _ ty fun v F1 H1 d ex r p => c.nx _ _ F1 H1 p ((ty.ext ex).set i r) ((b.step ex).set i))
theorem s_if {t : Expr} {a b : List Stmt} (h : T X R G t fun c => if c = true then S X R a G k else S X R b G k) : S1 X R (.If t a b pos) G k := fun F0 H0 σ F H D ty bs c =>
  s1Of.of (ps_if pt_w pss_w pss_w) (h σ F H _ ty fun q F1 H1 ex p => by
    cases q with
    | true => rw [if_pos rfl] at p ⊢; exact p F0 H0 σ F1 H1 D (ty.ext ex) (bs.step ex) c
    | false => rw [if_neg (by decide)] at p ⊢; exact p F0 H0 σ F1 H1 D (ty.ext ex) (bs.step ex) c)

/-! ### one's own things given away -/
def vis : Sl → Sl
  | .ow d => .sh d
  | g => g
theorem owo_rp {K : PySem.W.Frag} {F H F1 : Hp} {o : Addr} {d : Dt} (h : OwO K F H o d) (ff : Same F F1) (ho : F1 o = H o) : Rp K F1 d (.ref o) := by
  rcases h.kinds with ⟨xs, rfl⟩ | ⟨ks, xs, rfl⟩ | ⟨ks, xs, rfl⟩ | ⟨C, ns, xs, rfl⟩ | ⟨a, C, ns, xs, rfl⟩ | ⟨a, xs, rfl⟩ | ⟨a, ks, xs, rfl⟩
  · obtain ⟨vs, h1, r⟩ := h
    exact rp_lst.mpr ⟨o, vs, rfl, by rw [ho]; exact h1, r.mono ff⟩
  · obtain ⟨vs, h1, l, r⟩ := h
    exact rp_dT.mpr ⟨o, vs, rfl, .inl (by rw [ho]; exact h1), l, r.mono ff⟩
  · obtain ⟨vs, h1, l, r⟩ := h
    simp only [Rp]
    exact ⟨o, vs, rfl, .inl (by rw [ho]; exact h1), l, r.mono ff⟩
  · obtain ⟨dx, vs, h1, l, r⟩ := h
    exact rp_obj.mpr ⟨o, dx, vs, rfl, by rw [ho]; exact h1, l, r.mono ff⟩
  · obtain ⟨e, dx, vs, h1, l, r⟩ := h
    simp only [Rp]
    exact ⟨by rw [e], o, dx, vs, rfl, by rw [ho]; exact h1, l, r.mono ff⟩
  · obtain ⟨e, vs, h1, r⟩ := h
    simp only [Rp]
    exact ⟨by rw [e], o, vs, rfl, by rw [ho]; exact h1, r.mono ff⟩
  · obtain ⟨e, vs, h1, l, r⟩ := h
    simp only [Rp]
    exact ⟨by rw [e], o, vs, rfl, .inl (by rw [ho]; exact h1), l, r.mono ff⟩
theorem slsOk_vis {K : PySem.W.Frag} {F H F1 : Hp} {G : List Sl} {σ : St} (h : SlsOk K R F H G σ) (ff : Same F F1) (ho : ∀ o ∈ owns G σ, F1 o = H o) : SlsOk K R F1 H (G.map vis) σ := by
  induction h with
  | nil => exact .nil
  | @cons g v Gs vs h t ih =>
    refine .cons ?_ (ih fun o q => ho o ?_)
    · cases g with
      | no => trivial
      | sh d => obtain ⟨x, e, r⟩ := h; exact ⟨x, e, r.mono ff⟩
      | ow d =>
        obtain ⟨o, e, h1, h2, h3⟩ := h
        subst e
        exact ⟨.ref o, rfl, owo_rp h3 ff (ho o (by simp [owns]))⟩
    · cases g with
      | no => simpa [owns] using q
      | sh d => simpa [owns] using q
      | ow d =>
        cases v with
        | none => simpa [owns] using q
        | some x => cases x <;> simp [owns, q]
theorem owns_vis (G : List Sl) (σ : St) : owns (G.map vis) σ = [] := by
  induction G generalizing σ with
  | nil => simp [owns]
  | cons g G ih =>
    cases σ with
    | nil => cases g <;> simp [owns, vis]
    | cons v vs => cases g <;> simp [owns, vis, ih]
theorem Ty.frz {K : PySem.W.Frag} (ty : Ty K R G σ F H) (b : Bs R F0 H0 G σ F H) : ∃ F1, Ty K R (G.map vis) σ F1 H ∧ Bs R F0 H0 (G.map vis) σ F1 H ∧ Same F F1 := by
  have hno : ∀ o ∈ owns G σ, F o = none ∧ ¬ R.M o ∧ H o ≠ none := fun o ho => by
    obtain ⟨i, d, e1, e2⟩ := owns_mem ho
    obtain ⟨v, e3, p, e4, h1, h2, h3⟩ := ty.sl.get e1
    rw [e2] at e3
    cases e3
    cases e4
    exact ⟨h1, h2, h3.some⟩
  have ff : Same F (fun a => if a ∈ owns G σ then H a else F a) := fun a o h => by
    show (if a ∈ owns G σ then H a else F a) = some o
    by_cases q : a ∈ owns G σ
    · rw [(hno a q).1] at h; cases h
    · rw [if_neg q]; exact h
  have wf : Wf R (fun a => if a ∈ owns G σ then H a else F a) H := by
    refine ⟨fun a o h => ?_, fun a m => ?_, ty.wf.oc, ty.wf.b⟩
    · by_cases q : a ∈ owns G σ
      · have h' : (if a ∈ owns G σ then H a else F a) = some o := h
        rw [if_pos q] at h'; exact h'
      · have h' : (if a ∈ owns G σ then H a else F a) = some o := h
        rw [if_neg q] at h'; exact ty.wf.fh a o h'
    · show (if a ∈ owns G σ then H a else F a) = none
      by_cases q : a ∈ owns G σ
      · exact absurd m (hno a q).2.1
      · rw [if_neg q]; exact ty.wf.off a m
  refine ⟨_, ⟨wf, slsOk_vis ty.sl ff fun o ho => if_pos ho, by rw [owns_vis]; exact .nil⟩, ⟨⟨wf, b.ext.ff.trans ff, b.ext.hh, fun a h n => ?_⟩, (by rw [owns_vis]; intro o ho; cases ho), b.z⟩, ff⟩
  show (if a ∈ owns G σ then H a else F a) = none
  by_cases q : a ∈ owns G σ
  · exact absurd (b.fresh a q) h.ne
  · rw [if_neg q]; exact b.ext.fr a h n
theorem s1_frz {st : Stmt} (h : S1 X R st (G.map vis) k) : S1 X R st G k := fun F0 H0 σ F H D ty b c => by
  obtain ⟨F1, ty1, b1, ff⟩ := ty.frz b
  exact h F0 H0 σ F1 H D ty1 b1 c
theorem s_ret {e : Expr} (h : E X R (G.map vis) e k.rt) : S1 X R (.Return (some e) pos) G k := s1_frz fun F0 H0 σ F H D ty b c =>
  s1Of.of (ps_ret pe_w) (h σ F H _ ty fun v F1 H1 d ex r p => c.rt d v F1 H1 p (b.ext.trans ex) r)
/-! ### while -/
theorem s_while {t : Expr} {body : List Stmt} (I : Nat → List Sl → Prop) (m0 : Nat) (h0 : I m0 G) (hp : PassesOwn (model X.prog X.w) X.A X.env X.xe)
    (hs : ∀ m G, I m G → T X R G t fun c => if c = true then S X R body G { k with nx := fun G' => ∃ m', m' < m ∧ I m' G', ct := fun G' => ∃ m', m' < m ∧ I m' G', bk := k.nx } else k.nx G) : S1 X R (.While t body [] pos) G k := fun F0 H0 σ F H D ty b c =>
  s1Of.of (ps_while hp pt_w pss_w) ⟨fun m σ H => ∃ G F, I m G ∧ Ty X.K R G σ F H ∧ Bs R F0 H0 G σ F H, ⟨m0, G, F, h0, ty, b⟩, fun m σ H ⟨G, F, hI, ty, b⟩ => by
    refine hs m G hI σ F H _ ty fun q F1 H1 ex p => ?_
    cases q with
    | false => rw [if_neg (by decide)] at p ⊢; exact c.nx G σ F1 H1 p (ty.ext ex) (b.step ex)
    | true =>
      rw [if_pos rfl] at p ⊢
      refine ⟨_, fun σ' H' z => z, p F0 H0 σ F1 H1 _ (ty.ext ex) (b.step ex) ⟨fun G' σ' F' H' ⟨m', hm, z⟩ ty' b' => ⟨m', hm, G', F', z, ty', b'⟩, c.rt, c.rn, c.nx, fun G' σ' F' H' ⟨m', hm, z⟩ ty' b' => ⟨m', hm, G', F', z, ty', b'⟩⟩⟩⟩
/-- a, b = x, y -/
theorem s_par (i j : Nat) {x y : Str} {a b : Expr} {px py pt : Pos} {kt k2 pt2} (hc : X.calm = true) (hN : X.N.Nodup) (hi : X.N[i]? = some x) (hj : X.N[j]? = some y) (hij : i ≠ j)
    (hx : X.env.scope.names.lookup x = some .local) (hy : X.env.scope.names.lookup y = some .local) (h : EA X R G [a, b] fun ds => ∃ d e, ds = [d, e] ∧ k.nx ((G.set i (.sh d)).set j (.sh e)))
    (hw : swappedStores [.Tuple [.Name x px, .Name y py] kt pt] (.Tuple [a, b] k2 pt2) X.env = pure (some [x, y]))
    (hs : swapsWithSole [.Tuple [.Name x px, .Name y py] kt pt] (.Tuple [a, b] k2 pt2) pos.line X.env = pure false := by rfl) :
    S1 X R (.Assign [.Tuple [.Name x px, .Name y py] kt pt] (.Tuple [a, b] k2 pt2) pos) G k := fun F0 H0 σ F H D ty bs c =>
  s1Of.of (ps_par hc hN hi hj hij hx hy pa_w hw hs) (h σ F H _ ty fun vs F1 H1 ds ex r ⟨d, e, q, p⟩ => by
    subst q
    obtain ⟨v, w, rfl, r1, r2⟩ := r.two
    exact ⟨v, w, rfl, c.nx _ _ F1 H1 p (((ty.ext ex).set i r1).set j r2) (((bs.step ex).set i).set j)⟩)
end

/-! ### defs -/
/-- an error that leaves: its class, its own attributes -/
abbrev XD := Addr → List Str → List Dt → Prop
/-- a def's promise over data: the arguments, what is wanted of the value, of an error -/
abbrev Ph := List Dt → (Dt → Prop) → XD → Prop
def XOk (K : PySem.W.Frag) (R : Reg) (F H : Hp) (x : XD) (E : XK) : Prop := (∀ C ns ds dx vs F' H', x C ns ds → Ext R F H F' H' → H' dx = some (.xd (ns.zip vs)) → ns.length = vs.length → RpL K F' ds vs → H dx = none → E (.ref C) (some dx) H') ∧ (∀ C F' H', x C [] [] → Ext R F H F' H' → E (.ref C) none H')
def spD (K : PySem.W.Frag) (n : Nat) (φ : Ph) : Sp := fun vs H Q E => vs.length = n ∧ ∃ F ds q x, Same F H ∧ RpL K F ds vs ∧ φ ds q x ∧ (∀ v F' H' d, Ext .nil F H F' H' → Rp K F' d v → q d → Q v H') ∧ XOk K .nil F H x E
structure Fn (P : Program) (w : World) (K : PySem.W.Frag) (mg : Str → Option Value) (base : Heap) (k : Nat) (x : Str) (ps : List Str) (dvs : List V) (sp : Sp) : Prop where
  ex : ∃ (f : Addr) (fd : FuncData) (ds : List Value), mg x = some (.ref f) ∧ PySem.W.keepIn K (.ref f) = true ∧ Binds K fd ps ds ∧ Vals dvs ds ∧ FnOk P w K mg base (L2N.CX P w) k f fd ps sp
theorem Fn.mono {P : Program} {w : World} {K : PySem.W.Frag} {mg : Str → Option Value} {base : Heap} {j k : Nat} {x : Str} {ps : List Str} {dvs : List V} {sp : Sp} (F : Fn P w K mg base j x ps dvs sp) (h : j ≤ k) : Fn P w K mg base k x ps dvs sp := by
  obtain ⟨f, fd, ds, a, b, c, d, e⟩ := F.ex
  exact ⟨f, fd, ds, a, b, c, d, e.mono h⟩
theorem wf_nil {F H : Hp} (s : Same F H) : Wf .nil F H := ⟨s, fun _ z => z.elim, fun _ z => z.elim, trivial⟩
theorem Ext.of_nil {R : Reg} {F H F' H' : Hp} (w : Wf R F H) (e : Ext .nil F H F' H') : Ext R F H F' H' := w.grow (fun a o h => e.hh a o (fun z => z) h) e.ff e.wf.fh e.fr
section
variable {X : Cx} {R : Reg} {G : List Sl} {pos : Pos}
/-- f(e, ..): nothing is raised -/
theorem e_call {x : Str} {ps : List Str} {dvs : List V} {dds : List Dt} {φ : Ph} {n j : Nat} {e : Expr} {es : List Expr} {p : Pos} {P : Dt → Prop} (F : Fn X.prog X.w X.K X.mg X.base j x ps dvs (spD X.K n φ)) (hr : Room j X.A) (hg : Gl X x) (hd : ∀ F, RpL X.K F dds dvs)
    (h : EA X R G (e :: es) fun ds => (ds ++ dds).length = n ∧ φ (ds ++ dds) P fun _ _ _ => False)
    (hdb : (x == ("__debug__" : Str)) = false := by decide) (he : starEach (e :: es) X.env = (false, eval e X.env) :: starEach es X.env := by rfl) (hpl : (backTo pos (starEach es X.env)).any (·.1) = false := by rfl) : E X R G (.Call (.Name x p) (e :: es) [] pos) P := fun σ F' H Q ty c => by
  obtain ⟨f, fd, ds, a1, a2, a3, a4, a5⟩ := F.ex
  refine tOf.of (pe_call a5 hr hg a1 a2 a3 a4 passLn pa_w hdb he hpl) (h σ F' H _ ty fun vs F1 H1 ds ex r ⟨hl, hφ⟩ => ?_)
  have rr : RpL X.K F1 (ds ++ dds) (vs ++ dvs) := r.append (hd F1)
  exact ⟨by rw [← hl]; exact rr.length.symm, F1, _, P, fun _ _ _ => False, ex.wf.fh, rr, hφ, fun v F2 H2 d ex2 r2 p => c v F2 H2 d (ex.trans (Ext.of_nil ex.wf ex2)) r2 p, ⟨fun _ _ _ _ _ _ _ z => z.elim, fun _ _ _ z => z.elim⟩⟩
end

/-! ### a def keeps its promise -/
def st0 (N : List Str) (ds : List Dt) : List Sl := ds.map .sh ++ List.replicate (N.length - ds.length) .no
theorem sls0 {K : PySem.W.Frag} {R : Reg} {F H : Hp} : ∀ {ds : List Dt} {vs : List V} (n : Nat), RpL K F ds vs → SlsOk K R F H (ds.map .sh ++ List.replicate n .no) (vs.map some ++ List.replicate n none)
  | [], _, n, r => by
    rw [r.of_nil]
    simp only [List.map_nil, List.nil_append]
    induction n with
    | zero => exact .nil
    | succ n ih => exact .cons trivial ih
  | d :: ds, _, n, r => by
    obtain ⟨v, t, rfl, h1, h2⟩ := r.of_cons
    exact .cons ⟨v, rfl, h1⟩ (sls0 n h2)
theorem owns0 : ∀ (ds : List Dt) (σ : St) (n : Nat), owns (ds.map Sl.sh ++ List.replicate n .no) σ = []
  | [], σ, n => by
    simp only [List.map_nil, List.nil_append]
    induction n generalizing σ with
    | zero => simp [owns]
    | succ n ih =>
      cases σ with
      | nil => simp [owns, List.replicate_succ]
      | cons v vs => simp [owns, List.replicate_succ, ih]
  | d :: ds, [], n => by simp [owns]
  | d :: ds, v :: vs, n => by simp [owns, owns0 ds vs n]
section
variable {P : Program} {w : World} {K : PySem.W.Frag} {mg : Str → Option Value} {base : Heap}
/-- a def of the text as it stands behind the top -/
abbrev FD (K : PySem.W.Frag) (x qual : Str) (st : Stmt) (dvs : List V) (kws : List (Str × V)) (f : Addr) (fd : FuncData) : Prop := FunD K x qual (defArgs st) (defBody st) (defScope st) dvs kws f fd
theorem fn_ok {x qual : Str} {st : Stmt} {f : Addr} {fd : FuncData} {dvs : List V} {kws : List (Str × V)} {N ps : List Str} {k n : Nat} {φ : Ph} (F : FD K x qual st dvs kws f fd) (Sc : FnScope N ps (defScope st)) (hn : n = ps.length)
    (h : ∀ (X : Cx) (cdv : Value) (A : Around) (outer : List Env) (s : Shared) (H : Hp) (E : XK) (ds : List Dt) (q : Dt → Prop) (xd : XD), X = cxOf (L2N.CX P w) P w K mg base N qual (defScope st) f cdv A outer s H E → Room k X.A → φ ds q xd → ds.length = n →
      (∀ F, Wf .nil F H → XOk K .nil F H xd E → S X .nil (defBody st) (st0 N ds) { nx := fun _ => q .non, rt := q })) : FnOk P w K mg base (L2N.CX P w) (k + 1) f fd ps (spD K n φ) := by
  refine FunD.ok F Sc (fun vs H Q E hh => by rw [hh.1, hn]) fun cdv A outer s H vs Q E hr hh => ?_
  obtain ⟨hl, F0, ds, q, xd, sf, r, hφ, hq, hx⟩ := hh
  have hS := h _ cdv A outer s H E ds q xd rfl hr hφ (by rw [r.length, hl]) F0 (wf_nil sf) hx
  refine ⟨_, pss_w, hS F0 H _ F0 H _ ⟨wf_nil sf, ?_, by unfold st0; rw [owns0]; exact .nil⟩ ⟨.refl (wf_nil sf), (by unfold st0; rw [owns0]; intro o ho; cases ho), trivial⟩ ⟨fun G σ F1 H1 z _ b => hq .non F1 H1 .non b.ext (rp_non.mpr rfl) z, fun d v F1 H1 z e rd => hq v F1 H1 d e rd z, fun _ _ _ _ z => z.elim, fun _ _ _ _ z => z.elim, fun _ _ _ _ z => z.elim⟩⟩
  unfold st0 L2.start
  rw [r.length]
  exact sls0 _ r
end
end VS
set_option Elab.async false
set_option linter.all false
set_option maxRecDepth 100000
namespace VS
open PySem PySem.Spec L2

/-! ### what is walked, over data -/
@[irreducible] def tiOf (X : Cx) (tg iter : Expr) : TI := fun σ H R => ∀ pins s, Inv X pins σ H s → wpAny (model X.prog X.w) X.A (eval iter X.env) (fun v s1 => wpAny (model X.prog X.w) X.A (pyIter v) (PIE X pins σ tg R) X.xe s1) X.xe s
@[irreducible] def tgOf (X : Cx) (tg : Expr) : TG := fun v σ H Q => ∀ pins s u, Inv X pins σ H s → RelV v u → wpAny (model X.prog X.w) X.A (assign tg X.env u) (fun _ s' => ∃ σ' H', Inv X pins σ' H' s' ∧ Q σ' H') X.xe s
theorem pi_w {X : Cx} {tg iter : Expr} : PI X tg iter (tiOf X tg iter) := ⟨fun pins s σ H R I h => by unfold tiOf at h; exact h pins s I⟩
theorem pg_w {X : Cx} {tg : Expr} : PG X tg (tgOf X tg) := ⟨fun pins s σ H v u Q I r h => by unfold tgOf at h; exact h pins s u I r⟩
theorem tiOf.of {X : Cx} {tg iter : Expr} {t : TI} {σ : St} {H : Hp} {R : It → Hp → Prop} (h : PI X tg iter t) (q : t σ H R) : tiOf X tg iter σ H R := by unfold tiOf; exact fun pins s I => h.run pins s σ H R I q
theorem tgOf.of {X : Cx} {tg : Expr} {t : TG} {v : V} {σ : St} {H : Hp} {Q : St → Hp → Prop} (h : PG X tg t) (q : t v σ H Q) : tgOf X tg v σ H Q := by unfold tgOf; exact fun pins s u I r => h.run pins s σ H v u Q I r q
/-- the iterator J gives out the data ds, where F1 is known -/
def Itd (K : PySem.W.Frag) (R : Reg) (F1 : Hp) (J : It) (ds : List Dt) : Prop := ∀ F H, Same F1 F → Wf R F H → (∀ i, ds.length ≤ i → J.stop i H) ∧
  ∀ i d, ds[i]? = some d → J.go i H ∧ ∀ x H', J.yld i H x H' → ∃ F', Ext R F H F' H' ∧ Rp K F' d x
def I (X : Cx) (R : Reg) (G : List Sl) (tg iter : Expr) (P : List Dt → Prop) : Prop := ∀ σ F H Q, Ty X.K R G σ F H → (∀ J F' H' ds, Ext R F H F' H' → Itd X.K R F' J ds → P ds → Q J H') → tiOf X tg iter σ H Q
/-- slots set, one after another -/
def setsV (σ : St) (l : List (Nat × V)) : St := l.foldl (fun σ p => σ.set p.1 (some p.2)) σ
def setsD (G : List Sl) (l : List (Nat × Dt)) : List Sl := l.foldl (fun G p => G.set p.1 (.sh p.2)) G
/-- a target takes d: the slots js hold what ds tells -/
def A (X : Cx) (tg : Expr) (d : Dt) (js : List (Nat × Dt)) : Prop := ∀ σ F H v (Q : St → Hp → Prop), Same F H → Rp X.K F d v → (∀ vs, js.length = vs.length → RpL X.K F (js.map (·.2)) vs → Q (setsV σ ((js.map (·.1)).zip vs)) H) → tgOf X tg v σ H Q
section
variable {X : Cx} {R : Reg} {G : List Sl} {pos : Pos} {k : Kt}
theorem Ty.sets {K : PySem.W.Frag} {F H : Hp} : ∀ {js : List (Nat × Dt)} {vs : List V} {G : List Sl} {σ : St}, Ty K R G σ F H → RpL K F (js.map (·.2)) vs → Ty K R (setsD G js) (setsV σ ((js.map (·.1)).zip vs)) F H
  | [], vs, G, σ, ty, r => ty
  | (j, d) :: js, _, G, σ, ty, r => by
    obtain ⟨v, t, rfl, h1, h2⟩ := r.of_cons
    exact Ty.sets (js := js) (ty.set j h1) h2
theorem owns_sets : ∀ {js : List (Nat × Dt)} {vs : List V} {G : List Sl} {σ : St} {o : Addr}, js.length = vs.length → o ∈ owns (setsD G js) (setsV σ ((js.map (·.1)).zip vs)) → o ∈ owns G σ
  | [], vs, G, σ, o, _, h => h
  | (j, d) :: js, [], G, σ, o, hl, h => by simp at hl
  | (j, d) :: js, v :: vs, G, σ, o, hl, h => (owns_set_sub (g := .sh d) (v := some v) j (fun _ z => nomatch z)).subset (owns_sets (js := js) (vs := vs) (by simpa using hl) h)
theorem a_name (j : Nat) {x : Str} {d : Dt} (hN : X.N.Nodup) (hi : X.N[j]? = some x) (hx : Loc X.env.scope x) (hf : X.fn x = true ∨ X.env.scope.names.lookup x = some .local := by first | exact .inl rfl | exact .inr rfl | assumption) : A X (.Name x pos) d [(j, d)] := fun σ F H v Q _ r c =>
  tgOf.of (pg_name hN hi hx hf) (c [v] rfl (.cons r .nil))
/-- several targets take several data -/
def As (X : Cx) (ts : List Expr) (ds : List Dt) (js : List (Nat × Dt)) : Prop := ∃ t, PGs X ts t ∧ ∀ σ F H vs (Q : St → Hp → Prop), Same F H → RpL X.K F ds vs → (∀ ws, js.length = ws.length → RpL X.K F (js.map (·.2)) ws → Q (setsV σ ((js.map (·.1)).zip ws)) H) → t vs σ H Q
theorem as_nil : As X [] [] [] := ⟨_, pgs_nil, fun σ F H vs Q _ r c => ⟨r.of_nil, c [] rfl .nil⟩⟩
theorem zip_app {α β : Type} : ∀ {l1 : List α} {m1 : List β} {l2 : List α} {m2 : List β}, l1.length = m1.length → (l1 ++ l2).zip (m1 ++ m2) = l1.zip m1 ++ l2.zip m2
  | [], [], _, _, _ => rfl
  | [], _ :: _, _, _, h => by simp at h
  | _ :: _, [], _, _, h => by simp at h
  | a :: l1, b :: m1, l2, m2, h => by
    simp only [List.cons_append, List.zip_cons_cons]
    rw [zip_app (by simpa using h)]
theorem as_cons {t : Expr} {ts : List Expr} {d : Dt} {ds : List Dt} {js ls : List (Nat × Dt)} (h : A X t d js) (hr : As X ts ds ls) (hs : (assignEach (t :: ts) X.env).map (·.2) = assign t X.env :: (assignEach ts X.env).map (·.2) := by rfl) : As X (t :: ts) (d :: ds) (js ++ ls) := by
  obtain ⟨u, hu, hq⟩ := hr
  refine ⟨_, pgs_cons pg_w hu hs, fun σ F H vs Q sf r c => ?_⟩
  obtain ⟨v, w, rfl, r1, r2⟩ := r.of_cons
  refine ⟨v, w, rfl, h σ F H v _ sf r1 fun ws hw rw1 => hq _ F H w _ sf r2 fun zs hz rz => ?_⟩
  have e := c (ws ++ zs) (by simp [hw, hz]) (by rw [List.map_append]; exact rw1.append rz)
  rw [List.map_append, zip_app (by simpa using hw)] at e
  unfold setsV at e ⊢
  rw [List.foldl_append] at e
  exact e
theorem a_tup {es : List Expr} {kk : Nat} {ds : List Dt} {js : List (Nat × Dt)} (hc : X.calm = true) (h : As X es ds js) (hn : (assignEach es X.env).length = ds.length := by rfl) (hst : (assignEach es X.env).findIdx? (·.1) = none := by rfl) : A X (.Tuple es kk pos) (.tup ds) js := fun σ F H v Q sf r c => by
  obtain ⟨t, ht, hq⟩ := h
  obtain ⟨a, vs, rfl, sq, rl⟩ := rp_tup.mp r
  exact tgOf.of (pg_tup hc ht hn hst) ⟨a, vs, rfl, sq_t sf sq, rl.length.symm, hq σ F H vs Q sf rl c⟩
/-- a, b = e -/
theorem s_unpack {tg e : Expr} (h : E X R G e fun d => ∃ js, A X tg d js ∧ k.nx (setsD G js)) (hs : swapsWithSole [tg] e pos.line X.env = pure false := by rfl) (hw : swappedStores [tg] e X.env = pure none := by rfl)
    (h1 : (assignEach [tg] X.env).map (·.2) = [assign tg X.env] := by rfl) : S1 X R (.Assign [tg] e pos) G k := fun F0 H0 σ F H D ty b c =>
  s1Of.of (ps_asg pe_w pg_w hs hw h1) (h σ F H _ ty fun v F1 H1 d ex r ⟨js, ha, p⟩ => ha σ F1 H1 v _ ex.wf.fh r fun vs hl rv => c.nx _ _ F1 H1 p ((ty.ext ex).sets rv) ⟨(b.step ex).ext, fun o ho => b.fresh o (owns_sets hl ho), b.z⟩)

/-! ### for -/
theorem s_for {tg iter : Expr} {body : List Stmt} (hp : PassesOwn (model X.prog X.w) X.A X.env X.xe) (hc : X.calm = true)
    (h : I X R G tg iter fun ds => ∃ J : Nat → List Sl → Prop, J 0 G ∧ (∀ i d G, ds[i]? = some d → J i G → ∃ js, A X tg d js ∧ S X R body (setsD G js) { k with nx := J (i + 1), ct := J (i + 1), bk := k.nx }) ∧ ∀ G, J ds.length G → k.nx G)
    (hs : ∀ x, foldedSetIterable iter X.env x = pure x := by intro _; rfl) : S1 X R (.For tg iter body [] pos) G k := fun F0 H0 σ F H D ty b c => by
  refine s1Of.of (ps_for hp hc pi_w pg_w pss_w hs) (h σ F H _ ty fun Jt F1 H1 ds ex it ⟨J, j0, jt, jd⟩ => ?_)
  refine ⟨fun i m σ H => m = ds.length - i ∧ i ≤ ds.length ∧ ∃ G F, J i G ∧ Ty X.K R G σ F H ∧ Bs R F0 H0 G σ F H ∧ Same F1 F, ⟨_, rfl, Nat.zero_le _, G, F1, j0, ty.ext ex, b.step ex, .refl _⟩, ?_⟩
  rintro i m σ2 H2 ⟨rfl, hi, G2, F2, jg, ty2, b2, s2⟩
  obtain ⟨hstop, hgo⟩ := it F2 H2 s2 ty2.wf
  by_cases hlt : i < ds.length
  · obtain ⟨g1, g2⟩ := hgo i ds[i] (List.getElem?_eq_getElem hlt)
    refine .inr ⟨g1, _, fun σ' H' z => z, fun x H' y => ?_⟩
    obtain ⟨F3, ex3, r3⟩ := g2 x H' y
    obtain ⟨js, ha, hS⟩ := jt i ds[i] G2 (List.getElem?_eq_getElem hlt) jg
    refine ha σ2 F3 H' x _ ex3.wf.fh r3 fun vs hl rv => ?_
    have b3 := b2.step ex3
    have b4 : Bs R F0 H0 (setsD G2 js) (setsV σ2 ((js.map (·.1)).zip vs)) F3 H' := ⟨b3.ext, fun o ho => b3.fresh o (owns_sets hl ho), b3.z⟩
    have nxt : ∀ G' σ' F' H'', J (i + 1) G' → Ty X.K R G' σ' F' H'' → Bs R F3 H0 G' σ' F' H'' → ∃ m', m' < ds.length - i ∧ m' = ds.length - (i + 1) ∧ i + 1 ≤ ds.length ∧ ∃ G F, J (i + 1) G ∧ Ty X.K R G σ' F H'' ∧ Bs R F0 H0 G σ' F H'' ∧ Same F1 F :=
      fun G' σ' F' H'' z tz bz => ⟨_, by omega, rfl, hlt, G', F', z, tz, Bs.back b3.ext bz b3.z, (s2.trans ex3.ff).trans bz.ext.ff⟩
    have c2 := c.here b3.ext b3.z
    exact hS F3 H0 _ F3 H' _ ((ty2.ext ex3).sets rv) b4.here ⟨nxt, c2.rt, c2.rn, c2.nx, nxt⟩
  · have e : i = ds.length := by omega
    subst e
    exact .inl ⟨hstop _ (Nat.le_refl _), c.nx G2 σ2 F2 H2 (jd G2 jg) ty2 b2⟩
theorem i_lst {tg e : Expr} {P : List Dt → Prop} (h : E X R G e fun d => ∃ ds, d = .lst ds ∧ P ds) : I X R G tg e P := fun σ F H Q ty c =>
  tiOf.of (pi_list pe_w) (h σ F H _ ty fun v F1 H1 d ex r ⟨ds, e, p⟩ => by
    subst e
    obtain ⟨a, vs, rfl, sq, rl⟩ := rp_lst.mp r
    refine ⟨a, rfl, ⟨vs, SqL.of (ex.wf.fh _ _ sq)⟩, c _ F1 H1 ds ex (fun F2 H2 sf wf => ?_) p⟩
    have sq2 : SqL X.K H2 a vs := SqL.of (wf.fh _ _ (sf _ _ sq))
    refine ⟨fun i hi => ⟨vs, sq2, by rw [← rl.length]; exact hi⟩, fun i d hd => ?_⟩
    obtain ⟨v, hv, rv⟩ := rl.get hd
    refine ⟨⟨vs, v, sq2, hv⟩, fun x H' y => ?_⟩
    obtain ⟨rfl, y⟩ := y
    have e := y vs sq2
    rw [hv] at e
    cases e
    exact ⟨F2, .refl wf, rv.mono sf⟩)
theorem i_tup {tg e : Expr} {P : List Dt → Prop} (h : E X R G e fun d => ∃ ds, d = .tup ds ∧ P ds) : I X R G tg e P := fun σ F H Q ty c =>
  tiOf.of (pi_tup pe_w) (h σ F H _ ty fun v F1 H1 d ex r ⟨ds, e, p⟩ => by
    subst e
    obtain ⟨a, vs, rfl, sq, rl⟩ := rp_tup.mp r
    refine ⟨a, rfl, ⟨vs, sq_t ex.wf.fh sq⟩, c _ F1 H1 ds ex (fun F2 H2 sf wf => ?_) p⟩
    have sq2 : SqT X.K H2 a vs := sq_t wf.fh (sq_t sf sq)
    refine ⟨fun i hi => ⟨vs, sq2, by rw [← rl.length]; exact hi⟩, fun i d hd => ?_⟩
    obtain ⟨v, hv, rv⟩ := rl.get hd
    refine ⟨⟨vs, v, sq2, hv⟩, fun x H' y => ?_⟩
    obtain ⟨rfl, y⟩ := y
    have e := y vs sq2
    rw [hv] at e
    cases e
    exact ⟨F2, .refl wf, rv.mono sf⟩)
/-- lo, lo + 1, .. n of them -/
def rangeD (lo : Int) (n : Nat) : List Dt := (List.range n).map fun i => .int (lo + (i : Nat))
theorem rangeD_length (lo : Int) (n : Nat) : (rangeD lo n).length = n := by simp [rangeD]
theorem rangeD_get {lo : Int} {n i : Nat} {d : Dt} (h : (rangeD lo n)[i]? = some d) : i < n ∧ d = .int (lo + (i : Nat)) := by
  unfold rangeD at h
  rw [List.getElem?_map] at h
  by_cases hi : i < n
  · rw [List.getElem?_range hi] at h
    exact ⟨hi, (Option.some.inj h).symm⟩
  · rw [List.getElem?_eq_none (by simpa using hi)] at h
    cases h
theorem itd_range {F1 : Hp} {lo : Int} {n : Nat} : Itd X.K R F1 (Itr lo n) (rangeD lo n) := fun F H sf wf => ⟨fun i hi => by rw [rangeD_length] at hi; exact hi, fun i d hd => by
  obtain ⟨h1, h2⟩ := rangeD_get hd
  refine ⟨h1, fun x H' y => ?_⟩
  obtain ⟨rfl, rfl⟩ := y
  exact ⟨F, .refl wf, by rw [h2]; exact rp_int.mpr rfl⟩⟩
theorem i_range1 {tg a : Expr} {p : Pos} {P : List Dt → Prop} (hg : Gl X "range") (hm : X.mg "range" = none) (h : EA X R G [a] fun ds => ∃ n : Int, ds = [.int n] ∧ -(2 ^ 62) ≤ n ∧ n < 2 ^ 62 ∧ P (rangeD 0 n.toNat)) (hs : starEach [a] X.env = [(false, eval a X.env)] := by rfl) : I X R G tg (.Call (.Name "range" p) [a] [] pos) P := fun σ F H Q ty c =>
  tiOf.of (pi_range1 hg hm pa_w hs) (h σ F H _ ty fun v F1 H1 d ex r ⟨n, e, h1, h2, p⟩ => by
    subst e
    obtain ⟨v, rfl, r1⟩ := r.one
    exact ⟨n, by rw [rp_int.mp r1], h1, h2, c _ F1 H1 _ ex itd_range p⟩)
theorem i_range2 {tg a b : Expr} {p : Pos} {P : List Dt → Prop} (hg : Gl X "range") (hm : X.mg "range" = none) (h : EA X R G [a, b] fun ds => ∃ lo n : Int, ds = [.int lo, .int n] ∧ (-(2 ^ 62) ≤ lo ∧ lo < 2 ^ 62 ∧ -(2 ^ 62) ≤ n ∧ n < 2 ^ 62) ∧ P (rangeD lo (n - lo).toNat))
    (hs : starEach [a, b] X.env = [(false, eval a X.env), (false, eval b X.env)] := by rfl) (hs2 : starEach [b] X.env = [(false, eval b X.env)] := by rfl) : I X R G tg (.Call (.Name "range" p) [a, b] [] pos) P := fun σ F H Q ty c =>
  tiOf.of (pi_range2 hg hm pa_w hs hs2) (h σ F H _ ty fun v F1 H1 d ex r ⟨lo, n, e, h3, p⟩ => by
    subst e
    obtain ⟨v, w, rfl, r1, r2⟩ := r.two
    exact ⟨lo, n, by rw [rp_int.mp r1, rp_int.mp r2], h3, c _ F1 H1 _ ex itd_range p⟩)

/-! ### comprehensions -/
theorem wipe_set (σ : St) (j : Nat) (v : Option V) : ∀ {vs : List Nat}, j ∈ vs → wipe (σ.set j v) vs = wipe σ vs
  | [], h => by simp at h
  | u :: vs, h => by
    show (wipe (σ.set j v) vs).set u none = (wipe σ vs).set u none
    by_cases q : j ∈ vs
    · rw [wipe_set σ j v q]
    · have e : j = u := by
        rcases List.mem_cons.mp h with z | z
        · exact z
        · exact absurd z q
      subst e
      have w : ∀ (us : List Nat) (τ : St), j ∉ us → wipe (τ.set j v) us = (wipe τ us).set j v := fun us => by
        induction us with
        | nil => intro τ _; rfl
        | cons a us ih =>
          intro τ hn
          simp only [List.mem_cons, not_or] at hn
          show (wipe (τ.set j v) us).set a none = ((wipe τ us).set a none).set j v
          rw [ih τ hn.2, List.set_comm _ _ hn.1]
      rw [w vs σ q, List.set_set]
theorem wipe_sets {vs : List Nat} : ∀ {js : List (Nat × V)} {σ : St}, (∀ p ∈ js, p.1 ∈ vs) → wipe (setsV σ js) vs = wipe σ vs
  | [], σ, _ => rfl
  | (j, v) :: js, σ, h => by
    show wipe (setsV (σ.set j (some v)) js) vs = wipe σ vs
    rw [wipe_sets (js := js) fun p hp => h p (List.mem_cons_of_mem _ hp), wipe_set σ j (some v) (h (j, v) (List.mem_cons_self ..))]
theorem wipe_wipe (σ : St) (vs : List Nat) : wipe (wipe σ vs) vs = wipe σ vs := by
  have w : ∀ (us : List Nat) (τ : St), (∀ u ∈ us, u ∈ vs) → wipe (wipe τ us) vs = wipe τ vs := fun us => by
    induction us with
    | nil => intro τ _; rfl
    | cons a us ih =>
      intro τ hn
      show wipe ((wipe τ us).set a none) vs = wipe τ vs
      rw [wipe_set _ a none (hn a (List.mem_cons_self ..)), ih τ fun u hu => hn u (List.mem_cons_of_mem _ hu)]
  exact w vs σ fun u hu => hu
def wipeD (G : List Sl) : List Nat → List Sl
  | [] => G
  | v :: vs => (wipeD G vs).set v .no
theorem Ty.no {K : PySem.W.Frag} {F H : Hp} {σ : St} (h : Ty K R G σ F H) (i : Nat) {v : Option V} : Ty K R (G.set i .no) (σ.set i v) F H := ⟨h.wf, h.sl.set i trivial, h.nd.sublist (owns_set_sub i fun _ z => nomatch z)⟩
theorem Ty.wipe {K : PySem.W.Frag} {F H : Hp} {σ : St} (h : Ty K R G σ F H) : ∀ vs : List Nat, Ty K R (wipeD G vs) (L2.wipe σ vs) F H
  | [] => h
  | v :: vs => (Ty.wipe h vs).no v
/-- a block's context -/
def Blk (X : Cx) (scope : Scope) (Y : Cx) : Prop := ∃ s H C cl fp, Y = X.blk s H scope (compEnvC scope cl C X.env) fp
theorem Blk.K {scope : Scope} {Y : Cx} (b : Blk X scope Y) : Y.K = X.K := by
  obtain ⟨s, H, C, cl, fp, rfl⟩ := b
  rfl
@[irreducible] def tsOf (X : Cx) (ifs : List Expr) : TT := fun σ H Q => ∀ pins s, Inv X pins σ H s → wpAny (model X.prog X.w) X.A (forIn ifs true fun c r => if r = true then do let ok ← isTrue c X.env (eval c X.env); pure (ForInStep.yield ok) else pure (ForInStep.yield r)) (TP X pins σ Q) X.xe s
theorem tsOf.of {ifs : List Expr} {t : TT} {σ : St} {H : Hp} {Q : Bool → Hp → Prop} (h : PTs X ifs t) (q : t σ H Q) : tsOf X ifs σ H Q := by unfold tsOf; exact fun pins s I => h.run pins s σ H Q I q
def Ts (X : Cx) (R : Reg) (G : List Sl) (ifs : List Expr) (P : Bool → Prop) : Prop := ∀ σ F H Q, Ty X.K R G σ F H → CtB R F H P Q → tsOf X ifs σ H Q
theorem ts_nil {P : Bool → Prop} (p : P true) : Ts X R G [] P := fun σ F H Q ty c => tsOf.of pts_nil (c.here ty.wf p)
theorem ts_one {t : Expr} {P : Bool → Prop} (h : T X R G t P) : Ts X R G [t] P := fun σ F H Q ty c => tsOf.of (pts_one pt_w) (h σ F H Q ty c)
def tgB (X : Cx) (scope : Scope) (tg : Expr) : TG := fun v σ H Q => ∀ Y, Blk X scope Y → tgOf Y tg v σ H Q
def ttB (X : Cx) (scope : Scope) (ifs : List Expr) : TT := fun σ H Q => ∀ Y, Blk X scope Y → tsOf Y ifs σ H Q
def teB (X : Cx) (scope : Scope) (e : Expr) : TE := fun σ H Q => ∀ Y, Blk X scope Y → tOf Y e σ H Q
/-- what a comprehension's turns give: J turn (what is gathered) -/
structure Lc (X : Cx) (R : Reg) (G : List Sl) (tg elt : Expr) (ifs : List Expr) (scope : Scope) (vs : List Nat) (ds : List Dt) (J : Nat → List Dt → Prop) : Prop where
  start : J 0 []
  step : ∀ i d acc, ds[i]? = some d → J i acc → acc.length ≤ i → ∃ js, (∀ Y, Blk X scope Y → A Y tg d js) ∧ (∀ p ∈ js, p.1 ∈ vs) ∧
    ∀ Y, Blk X scope Y → Ts Y R (setsD (wipeD G vs) js) ifs fun b => if b = true then ∀ Z, Blk X scope Z → E Z R (setsD (wipeD G vs) js) elt fun y => J (i + 1) (acc ++ [y]) else J (i + 1) acc
theorem lc_run {tg iter elt : Expr} {ifs : List Expr} {scope : Scope} {vs : List Nat} {σ : St} {F H : Hp} {Q : VK} (ty : Ty X.K R G σ F H) (h : I X R G tg iter fun ds => ds.length ≤ 100000 ∧ ∃ J, Lc X R G tg elt ifs scope vs ds J ∧
      ∀ acc, J ds.length acc → ∀ D F' H' vacc, Ext R F H F' H' → H D = none → ¬ R.M D → H' D = some (.lst vacc) → F' D = none → RpL X.K F' acc vacc → Q (.ref D) H') : tLc (tiOf X tg iter) (tgB X scope tg) (ttB X scope ifs) (teB X scope elt) vs σ H Q := by
  refine h σ F H _ ty fun Jt F1 H1 ds ex it ⟨hl, J, lc, fin⟩ => fun D hD => ?_
  have hD0 : H D = none := by
    cases q : H D with
    | none => rfl
    | some o => exact absurd hD (ex.keep0 (by rw [q]; exact fun z => nomatch z))
  have nM : ¬ R.M D := ex.wf.new hD
  refine ⟨fun i m H2 => m = ds.length - i ∧ i ≤ ds.length ∧ ∃ F2 acc vacc, J i acc ∧ acc.length ≤ i ∧ H2 D = some (.lst vacc) ∧ F2 D = none ∧ RpL X.K F2 acc vacc ∧ Ext R F1 H1 F2 H2, ⟨_, rfl, Nat.zero_le _, F1, [], [], lc.start, Nat.le_refl _, upd_same, ex.wf.fh.free hD, .nil, ex.wf.own hD⟩, ?_⟩
  rintro i m H2 ⟨rfl, hi, F2, acc, vacc, j, hla, hD2, fD2, ra, ex2⟩
  obtain ⟨hstop, hgo⟩ := it F2 H2 ex2.ff ex2.wf
  by_cases hlt : i < ds.length
  · obtain ⟨g1, g2⟩ := hgo i ds[i] (List.getElem?_eq_getElem hlt)
    refine .inr ⟨g1, _, fun H' z => z, fun x H' y => ?_⟩
    obtain ⟨F3, ex3, r3⟩ := g2 x H' y
    obtain ⟨js, ha, hjs, hS⟩ := lc.step i ds[i] acc (List.getElem?_eq_getElem hlt) j hla
    intro Y bY
    refine ha Y bY (wipe σ vs) F3 H' x _ ex3.wf.fh (by rw [bY.K]; exact r3) fun ws hw rw1 => ⟨?_, ?_⟩
    · rw [wipe_sets fun p hp => ?_, wipe_wipe]
      have q := (List.of_mem_zip hp).1
      obtain ⟨z, hz, e⟩ := List.mem_map.mp q
      rw [← e]
      exact hjs z hz
    · intro Y2 bY2
      have tyW : Ty X.K R (setsD (wipeD G vs) js) (setsV (wipe σ vs) ((js.map (·.1)).zip ws)) F3 H' := Ty.sets (((ty.ext ((ex.trans ex2).trans ex3))).wipe vs) (by rw [← bY.K]; exact rw1)
      have hD3 : H' D = some (.lst vacc) := ex3.hh D _ nM hD2
      have fD3 : F3 D = none := ex3.fr D (by rw [hD2]; exact ⟨_, rfl, fun _ z => nomatch z⟩) fD2
      refine hS Y2 bY2 _ F3 H' _ (by rw [bY2.K]; exact tyW) fun b F4 H4 ex4 p => ?_
      have hD4 : H4 D = some (.lst vacc) := ex4.hh D _ nM hD3
      have fD4 : F4 D = none := ex4.fr D (by rw [hD3]; exact ⟨_, rfl, fun _ z => nomatch z⟩) fD3
      cases b with
      | false =>
        rw [if_neg (by decide)] at p ⊢
        exact ⟨_, by omega, rfl, hlt, F4, acc, vacc, p, Nat.le_succ_of_le hla, hD4, fD4, ra.mono (ex3.ff.trans ex4.ff), (ex2.trans ex3).trans ex4⟩
      | true =>
        rw [if_pos rfl] at p ⊢
        intro Y3 bY3
        refine p Y3 bY3 _ F4 H4 _ (by rw [bY3.K]; exact tyW.ext ex4) fun y F5 H5 d ex5 r5 pj => ?_
        have hD5 : H5 D = some (.lst vacc) := ex5.hh D _ nM hD4
        have fD5 : F5 D = none := ex5.fr D (by rw [hD4]; exact ⟨_, rfl, fun _ z => nomatch z⟩) fD4
        have ra5 := ra.mono ((ex3.ff.trans ex4.ff).trans ex5.ff)
        have e5 := ((ex2.trans ex3).trans ex4).trans ex5
        have mk : Ext R F1 H1 F5 (upd H5 D (.lst (vacc ++ [y]))) := by
          refine ⟨⟨fun a o h => ?_, e5.wf.off, fun a m => ?_, ?_⟩, e5.ff, fun a o n h => ?_, e5.fr⟩
          · rw [upd_ne (fun z => by rw [z, fD5] at h; cases h)]
            exact e5.wf.fh a o h
          · have nz : a ≠ D := fun z => nM (z ▸ m)
            rw [upd_ne nz]
            exact e5.wf.oc a m
          · exact R.st H5 _ (fun a o m h => by
              have nz : a ≠ D := fun z => nM (z ▸ m)
              rw [upd_ne nz]
              exact h) e5.wf.b
          · rw [upd_ne (ne_of_none h hD)]
            exact e5.hh a o n h
        refine ⟨vacc, hD5, ?_, ⟨_, by omega, rfl, hlt, F5, acc ++ [d], vacc ++ [y], pj, by simp; omega, upd_same, fD5, ra5.append (.cons (by rw [← bY3.K]; exact r5) .nil), mk⟩⟩
        rw [← ra5.length]
        exact Nat.lt_of_le_of_lt hla (Nat.lt_of_lt_of_le hlt (Nat.le_trans hl (by decide)))
  · have e : i = ds.length := by omega
    subst e
    exact .inl ⟨hstop _ (Nat.le_refl _), fin acc j D F2 H2 vacc (ex.trans ex2) hD0 nM hD2 fD2 ra⟩
/-- [elt for tg in iter if ..] -/
theorem e_lc {tg iter elt : Expr} {ifs : List Expr} {scope : Scope} {own : List (Str × Nat)} {P : Dt → Prop} (hc : X.calm = true) (hN : X.N.Nodup) (ok : BlkOk X.N X.env.scope scope own)
    (h : I X R G tg iter fun ds => ds.length ≤ 100000 ∧ ∃ J, Lc X R G tg elt ifs scope (own.map (·.2)) ds J ∧ ∀ acc, J ds.length acc → P (.lst acc)) (hs : ∀ x, foldedSetIterable iter X.env x = pure x := by intro _; rfl) : E X R G (.ListComp elt [⟨tg, iter, ifs, 0⟩] scope pos) P := fun σ F H Q ty c => by
  refine tOf.of (pe_lc (g := tgB X scope tg) (tt := ttB X scope ifs) (te := teB X scope elt) hc hN pi_w ok (fun s H C cl fp => ⟨fun pins s' σ H' v u Q I r h => by have z := h _ ⟨s, H, C, cl, fp, rfl⟩; unfold tgOf at z; exact z pins s' u I r⟩) (fun s H C cl fp => ⟨fun pins s' σ H' Q I h => by have z := h _ ⟨s, H, C, cl, fp, rfl⟩; unfold tsOf at z; exact z pins s' I⟩) (fun s H C cl fp => ⟨fun pins s' σ H' Q I h => by have z := h _ ⟨s, H, C, cl, fp, rfl⟩; unfold tOf at z; exact z pins s' I⟩) hs) (lc_run ty ?_)
  intro σ1 F1 H1 Q1 ty1 c1
  refine h σ1 F1 H1 Q1 ty1 fun J F2 H2 ds ex it ⟨hl, Jd, lc, fin⟩ => c1 J F2 H2 ds ex it ⟨hl, Jd, lc, fun acc ja D F' H' vacc ex' hD nM hD' fD' ra => ?_⟩
  refine c (.ref D) (upd F' D (.lst vacc)) H' (.lst acc) ⟨⟨fun a o h => ?_, fun a m => ?_, ex'.wf.oc, ex'.wf.b⟩, ex'.ff.trans (same_upd fD'), ex'.hh, fun a h n => ?_⟩ (rp_lst_new fD' ra) (fin acc ja)
  · by_cases q : a = D
    · subst q; rw [upd_same] at h; rw [hD']; exact h
    · rw [upd_ne q] at h; exact ex'.wf.fh a o h
  · rw [upd_ne (fun z => nM (by rw [← z]; exact m))]
    exact ex'.wf.off a m
  · rw [upd_ne (fun z => h.ne (by rw [z]; exact hD))]
    exact ex'.fr a h n
end
end VS
set_option Elab.async false
set_option linter.all false
set_option maxRecDepth 100000
namespace VS
open PySem PySem.Spec L2
section
variable {X : Cx} {R : Reg} {G : List Sl} {pos : Pos} {k : Kt}

/-! ### is, isinstance -/
def isNon : Dt → Bool
  | .non => true
  | _ => false
theorem rp_isNon {K : PySem.W.Frag} {F : Hp} {d : Dt} {v : V} (r : Rp K F d v) : decide (v = .non) = isNon d := by
  cases d with
  | non => rw [rp_non.mp r]; rfl
  | bl b => rw [rp_bl.mp r]; rfl
  | int b => rw [rp_int.mp r]; rfl
  | str b => rw [rp_str.mp r]; rfl
  | ty b => rw [rp_ty.mp r]; rfl
  | adr b => rw [rp_adr.mp r]; rfl
  | tup xs => obtain ⟨a, vs, rfl, _⟩ := rp_tup.mp r; rfl
  | lst xs => obtain ⟨a, vs, rfl, _⟩ := rp_lst.mp r; rfl
  | frl xs => obtain ⟨a, vs, rfl, _⟩ := rp_frl.mp r; rfl
  | dT ks xs => obtain ⟨a, vs, rfl, _⟩ := rp_dT.mp r; rfl
  | dK ks xs => simp only [Rp] at r; obtain ⟨a, vs, rfl, _⟩ := r; rfl
  | at_ a d => simp only [Rp] at r; obtain ⟨rfl, _⟩ := r; rfl
  | obj C ns xs => obtain ⟨a, dx, vs, rfl, _⟩ := rp_obj.mp r; rfl
  | exv a ns xs d => rw [(rp_exv.mp r).1]; rfl
  | key ks => obtain ⟨a, rfl, _⟩ := rp_key.mp r; rfl
theorem w_isN {d : Dt} {P : Dt → Prop} (p : P (.bl (isNon d))) : W2 X R (compareOp .Is) d .non P := fun F H x y Q w rx ry c => by
  refine opOf.of op_isN ⟨rp_non.mp ry, ?_⟩
  rw [rp_isNon rx]
  exact c.here w (rp_bl.mpr rfl) p
theorem w_isNN {d : Dt} {P : Dt → Prop} (p : P (.bl (!isNon d))) : W2 X R (compareOp .IsNot) d .non P := fun F H x y Q w rx ry c => by
  refine opOf.of op_notN ⟨rp_non.mp ry, ?_⟩
  rw [rp_isNon rx]
  exact c.here w (rp_bl.mpr rfl) p
/-- a datum's type -/
def TyD (K : PySem.W.Frag) (d : Dt) (t : Value) : Prop := ∀ F H x, Same F H → Rp K F d x → TyX K H x t
/-- a built-in's name as a value -/
theorem e_ty {x : Str} {n : String} {P : Dt → Prop} (hg : Gl X x) (hm : X.mg x = none) (hv : bootBuiltins x = some (.type n)) (p : P (.ty n)) (hn : x ≠ "__name__" := by decide) (hd : (x == ("__debug__" : Str)) = false := by decide) : E X R G (.Name x pos) P := fun σ F H Q ty c =>
  tOf.of (pe_bltn (v := .ty n) hg hm hv rfl hn hd) (c.here ty.wf (rp_ty.mpr rfl) p)
/-- an own class's name -/
theorem e_cls {x : Str} {C : Addr} {P : Dt → Prop} (hg : Gl X x) (hm : X.mg x = some (.ref C)) (p : P (.adr C)) (hd : (x == ("__debug__" : Str)) = false := by decide) : E X R G (.Name x pos) P := fun σ F H Q ty c =>
  tOf.of (pe_glob (v := .ref C) hg hm rfl hd) (c.here ty.wf (rp_adr.mpr rfl) p)

/-! ### slices -/
def cutD (xs : List Dt) (lo hi : Option Int) : List Dt := (xs.drop (HT.sIx xs.length 0 lo)).take (HT.sIx xs.length xs.length hi - HT.sIx xs.length 0 lo)
theorem RpL.cut {K : PySem.W.Frag} {F : Hp} {ds : List Dt} {vs : List V} (r : RpL K F ds vs) (lo hi : Option Int) : RpL K F (cutD ds lo hi) (cutV vs lo hi) := by
  unfold cutD cutV
  rw [r.length]
  exact (r.drop _).take _
@[irreducible] def slOf (X : Cx) : V → Option Int → Option Int → Hp → VK → Prop := fun x lo hi H Q => ∀ pins s σ v vl vu sl, Inv X pins σ H s → RelV x v → s.heap.IsSliceOf sl vl vu .none → IsPart vl lo → IsPart vu hi → ∃ T id, typeLookup (.type T) "__getitem__" = pure (some (.builtin id)) ∧ s.TypeIs v T ∧ wpAny (model X.prog X.w) X.A (getItem v (.ref sl)) (EP X pins σ Q) X.xe s
theorem sl_w : SlR X (slOf X) := fun pins s σ H x v vl vu lo hi sl Q I rx h1 h2 h3 h => by unfold slOf at h; exact h pins s σ v vl vu sl I rx h1 h2 h3
theorem slOf.of {r : V → Option Int → Option Int → Hp → VK → Prop} {x : V} {lo hi : Option Int} {H : Hp} {Q : VK} (h : SlR X r) (q : r x lo hi H Q) : slOf X x lo hi H Q := by unfold slOf; exact fun pins s σ v vl vu sl I rx h1 h2 h3 => h pins s σ H x v vl vu lo hi sl Q I rx h1 h2 h3 q
def WSl (X : Cx) (R : Reg) (d : Dt) (lo hi : Option Int) (P : Dt → Prop) : Prop := ∀ F H x Q, Wf R F H → Rp X.K F d x → Ct X.K R F H P Q → slOf X x lo hi H Q
def EO (X : Cx) (R : Reg) (G : List Sl) (e : Option Expr) (P : Option Int → Prop) : Prop := match e with
  | none => P none
  | some e => E X R G e fun d => ∃ i, d = .int i ∧ P (some i)
def toOf (X : Cx) : Option Expr → TO
  | none => tNoPart
  | some e => tPart (tOf X e)
theorem po_w {e : Option Expr} : PO X e (toOf X e) := by
  cases e with
  | none => exact po_none
  | some e => exact po_some pe_w
theorem EO.run {e : Option Expr} {P : Option Int → Prop} {σ : St} {F H : Hp} {Q : Option Int → Hp → Prop} (h : EO X R G e P) (ty : Ty X.K R G σ F H) (c : ∀ o F' H', Ext R F H F' H' → P o → Q o H') : toOf X e σ H Q := by
  cases e with
  | none => exact c none F H (.refl ty.wf) h
  | some e =>
    refine (show E X R G e _ from h) σ F H _ ty fun v F1 H1 d ex r hh => ?_
    obtain ⟨i, e, p⟩ := hh
    subst e
    exact ⟨i, rp_int.mp r, c _ F1 H1 ex p⟩
theorem e_slice {e : Expr} {lo hi : Option Expr} {p2 : Pos} {P : Dt → Prop} (h : E X R G e fun d => EO X R G lo fun l => EO X R G hi fun u => WSl X R d l u P) : E X R G (.Subscript e (.Slice lo hi none p2) pos) P := fun σ F H Q ty c =>
  tOf.of (pe_slice sl_w pe_w po_w po_w) (h σ F H _ ty fun v F1 H1 d ex r h2 => h2.run (ty.ext ex) fun l F2 H2 ex2 h3 => h3.run ((ty.ext ex).ext ex2) fun u F3 H3 ex3 h4 => h4 F3 H3 v Q ex3.wf ((r.mono ex2.ff).mono ex3.ff) (c.step ((ex.trans ex2).trans ex3)))
theorem wsl_lst {ds : List Dt} {lo hi : Option Int} {P : Dt → Prop} (p : P (.lst (cutD ds lo hi))) : WSl X R (.lst ds) lo hi P := fun F H x Q w r c => by
  obtain ⟨a, vs, rfl, sq, rl⟩ := rp_lst.mp r
  exact slOf.of sl_list ⟨a, vs, rfl, SqL.of (w.fh _ _ sq), fun q hq => c _ _ _ _ (w.made hq) (rp_lst_new (w.fh.free hq) (rl.cut lo hi)) p⟩
theorem wsl_frl {ds : List Dt} {lo hi : Option Int} {P : Dt → Prop} (p : P (.lst (cutD ds lo hi))) : WSl X R (.frl ds) lo hi P := fun F H x Q w r c => by
  obtain ⟨a, vs, rfl, sq, rl⟩ := rp_frl.mp r
  exact slOf.of sl_list ⟨a, vs, rfl, w.fh.seq sq, fun q hq => c _ _ _ _ (w.made hq) (rp_lst_new (w.fh.free hq) (rl.cut lo hi)) p⟩

/-! ### one's own lists -/
theorem Ty.own {K : PySem.W.Frag} {σ : St} {F H : Hp} (ty : Ty K R G σ F H) {i : Nat} {d : Dt} (hg : G[i]? = some (.ow d)) : ∃ o, σ[i]? = some (some (.ref o)) ∧ F o = none ∧ ¬ R.M o ∧ OwO K F H o d := by
  obtain ⟨v, e, o, e2, h1, h2, h3⟩ := ty.sl.get hg
  exact ⟨o, by rw [e, e2], h1, h2, h3⟩
theorem slsOk_mut {K : PySem.W.Frag} {F H : Hp} {o : Addr} {u : HO} {d' : Dt} (fo : F o = none) (nM : ¬ R.M o) (hd : OwO K F (upd H o u) o d') : ∀ {G : List Sl} {σ : St} {i : Nat}, SlsOk K R F H G σ → (owns G σ).Nodup → (∃ d, G[i]? = some (.ow d)) → σ[i]? = some (some (.ref o)) → SlsOk K R F (upd H o u) (G.set i (.ow d')) σ := by
  have keep : ∀ {g : Sl} {v : Option V}, SlOk K R F H g v → (∀ d, g = .ow d → v ≠ some (.ref o)) → SlOk K R F (upd H o u) g v := fun {g v} h hn => by
    cases g with
    | no => trivial
    | sh d => exact h
    | ow d =>
      obtain ⟨p, e, h1, h2, h3⟩ := h
      have ne : p ≠ o := fun z => hn d rfl (by rw [e, z])
      exact ⟨p, e, h1, h2, h3.mono (.refl _) fun u' q => by rw [upd_ne ne]; exact q⟩
  intro G σ i h
  induction h generalizing i with
  | nil => intro _ hg _; obtain ⟨d, hg⟩ := hg; simp at hg
  | @cons g v Gs vs h t ih =>
    intro nd hg hs
    obtain ⟨d, hg⟩ := hg
    cases i with
    | zero =>
      have e1 := Option.some.inj hg
      have e2 := Option.some.inj hs
      subst e1 e2
      simp only [owns, List.nodup_cons] at nd
      refine .cons ⟨o, rfl, fo, nM, hd⟩ ?_
      have all : ∀ {Gs : List Sl} {vs : List (Option V)}, SlsOk K R F H Gs vs → o ∉ owns Gs vs → SlsOk K R F (upd H o u) Gs vs := fun {Gs vs} t => by
        induction t with
        | nil => intro _; exact .nil
        | @cons g v Gs vs h t ih2 =>
          intro hn
          have hn2 : o ∉ owns Gs vs ∧ ∀ d, g = .ow d → v ≠ some (.ref o) := by
            cases g with
            | no => exact ⟨by simpa [owns] using hn, fun d z => nomatch z⟩
            | sh d => exact ⟨by simpa [owns] using hn, fun d z => nomatch z⟩
            | ow d =>
              cases v with
              | none => exact ⟨by simpa [owns] using hn, fun d _ z => nomatch z⟩
              | some x =>
                cases x with
                | ref p =>
                  simp only [owns, List.mem_cons, not_or] at hn
                  exact ⟨hn.2, fun d _ z => hn.1 (by injection z with z; injection z with z; exact z.symm)⟩
                | _ => exact ⟨by simpa [owns] using hn, fun d _ z => nomatch z⟩
          exact .cons (keep h hn2.2) (ih2 hn2.1)
      exact all t nd.1
    | succ j =>
      have hg' : Gs[j]? = some (.ow d) := by simpa using hg
      have hs' : vs[j]? = some (some (.ref o)) := by simpa using hs
      have mo := mem_owns hg' hs'
      have nd2 : (owns Gs vs).Nodup ∧ ∀ d, g = .ow d → v ≠ some (.ref o) := by
        cases g with
        | no => exact ⟨by simpa [owns] using nd, fun d z => nomatch z⟩
        | sh d => exact ⟨by simpa [owns] using nd, fun d z => nomatch z⟩
        | ow d =>
          cases v with
          | none => exact ⟨by simpa [owns] using nd, fun d _ z => nomatch z⟩
          | some x =>
            cases x with
            | ref p =>
              simp only [owns, List.nodup_cons] at nd
              exact ⟨nd.2, fun d _ z => nd.1 (by injection z with z; injection z with z; rw [z]; exact mo)⟩
            | _ => exact ⟨by simpa [owns] using nd, fun d _ z => nomatch z⟩
      exact .cons (keep h nd2.2) (ih nd2.1 ⟨d, hg'⟩ hs')
theorem owns_same {G : List Sl} {σ : St} {i : Nat} {d d' : Dt} (hg : G[i]? = some (.ow d)) : owns (G.set i (.ow d')) σ = owns G σ := by
  induction G generalizing σ i with
  | nil => simp
  | cons g G ih =>
    cases σ with
    | nil =>
      cases i with
      | zero => simp [owns]
      | succ j => simp [owns]
    | cons v vs =>
      cases i with
      | zero =>
        have e1 := Option.some.inj hg
        subst e1
        show owns (.ow d' :: G) (v :: vs) = owns (.ow d :: G) (v :: vs)
        cases v with
        | none => simp [owns]
        | some x => cases x <;> simp [owns]
      | succ j =>
        have q := ih (σ := vs) (i := j) (by simpa using hg)
        show owns (g :: G.set j (.ow d')) (v :: vs) = owns (g :: G) (v :: vs)
        cases g with
        | no => simpa [owns] using q
        | sh d => simpa [owns] using q
        | ow d =>
          cases v with
          | none => simpa [owns] using q
          | some x => cases x <;> simp [owns, q]
theorem Ty.mut {K : PySem.W.Frag} {σ : St} {F H : Hp} (ty : Ty K R G σ F H) {i : Nat} {d d' : Dt} {o : Addr} {u : HO} (hg : G[i]? = some (.ow d)) (hs : σ[i]? = some (some (.ref o))) (hd : OwO K F (upd H o u) o d') : Ty K R (G.set i (.ow d')) σ F (upd H o u) := by
  obtain ⟨o2, e, fo, nM, ho⟩ := ty.own hg
  rw [hs] at e
  cases e
  refine ⟨⟨fun a z h => ?_, ty.wf.off, fun a m => ?_, R.st H _ (fun a z m h => ?_) ty.wf.b⟩, slsOk_mut fo nM hd ty.sl ty.nd ⟨d, hg⟩ hs, by rw [owns_same hg]; exact ty.nd⟩
  · rw [upd_ne (fun z => by rw [z, fo] at h; cases h)]
    exact ty.wf.fh a z h
  · have nz : a ≠ o := fun z => nM (z ▸ m)
    rw [upd_ne nz]
    exact ty.wf.oc a m
  · have nz : a ≠ o := fun z => nM (z ▸ m)
    rw [upd_ne nz]
    exact h
theorem Bs.mut {F0 H0 F H : Hp} {σ : St} (b : Bs R F0 H0 G σ F H) {K : PySem.W.Frag} {i : Nat} {d d' : Dt} {o : Addr} {u : HO} (ty : Ty K R (G.set i (.ow d')) σ F (upd H o u)) (hg : G[i]? = some (.ow d)) (hs : σ[i]? = some (some (.ref o))) : Bs R F0 H0 (G.set i (.ow d')) σ F (upd H o u) := by
  have fo := b.fresh o (mem_owns hg hs)
  exact ⟨⟨ty.wf, b.ext.ff, fun a z n h => by rw [upd_ne (ne_of_none h fo)]; exact b.ext.hh a z n h, b.ext.fr⟩, (by rw [owns_same hg]; exact b.fresh), b.z⟩
/-- xs.append(e), xs one's own -/
theorem s_app (i : Nat) {x : Str} {e : Expr} {ds : List Dt} {apos cpos p : Pos} (hg : G[i]? = some (.ow (.lst ds))) (hN : X.N[i]? = some x) (hv : Vis X.env.scope x) (hl : ds.length < 100000) (h : E X R G e fun d => k.nx (G.set i (.ow (.lst (ds ++ [d])))))
    (hd : (x == ("__debug__" : Str)) = false := by decide) (hcd : (x == ("__classdict__" : Str)) = false := by decide)
    (hbase : attributeBase (.Name x p) "append" X.env (eval (.Name x p) X.env) = eval (.Name x p) X.env := by rfl)
    (hfew : ((backTo cpos (starEach [e] X.env)).all (fun x => !x.1) && (backToKw cpos (keywordEach [] X.env)).all (fun x => x.1.isSome) && decide ([e].length + ([] : List Keyword).length + (if ([] : List Keyword).isEmpty then 0 else 1) < 30)) = true := by rfl)
    (hline : (apos.endLine == cpos.line) = true := by rfl) (hs : starEach [e] X.env = (false, eval e X.env) :: starEach [] X.env := by rfl) (hplain : (backTo cpos (starEach [] X.env)).any (·.1) = false := by rfl)
    (hsw : swapsWith (.Call (.Attribute (.Name x p) "append" apos) [e] [] cpos) none pos.line X.env = pure false := by rfl) :
    S1 X R (.Expr (.Call (.Attribute (.Name x p) "append" apos) [e] [] cpos) pos) G k := fun F0 H0 σ F H D ty b c => by
  obtain ⟨o, so, fo, nM, vs, ho, rl⟩ := ty.own hg
  refine s1Of.of (ps_expr (pe_bm PySem.F.plainAttrs_list PySem.F.slot_list_append PySem.F.type_list_append mt_append (pe_var hN hv hd hcd) (pa_cons pe_w pa_nil hs) hbase hfew hline hs hplain) hsw) ?_
  refine ⟨.ref o, so, .inl ⟨rfl, vs, SqL.of ho⟩, h σ F H _ ty fun v F1 H1 d ex r p => ?_⟩
  have ho1 := ex.hh o _ nM ho
  refine ⟨o, vs, v, rfl, rfl, ho1, ?_, ?_⟩
  · rw [← rl.length]
    exact Nat.lt_of_lt_of_le hl (by decide)
  · have ty1 := (ty.ext ex).mut (d' := .lst (ds ++ [d])) (u := .lst (vs ++ [v])) hg so ⟨_, upd_same, (rl.mono ex.ff).append (.cons r .nil)⟩
    exact c.nx _ _ _ _ p ty1 ((b.step ex).mut ty1 hg so)
end
end VS
set_option Elab.async false
set_option linter.all false
set_option maxRecDepth 100000
namespace VS
open PySem PySem.Spec L2
section
variable {X : Cx} {R : Reg} {G : List Sl} {pos : Pos} {k : Kt}

/-! ### a new list, one's own -/
def CtN (K : PySem.W.Frag) (R : Reg) (F H : Hp) (P : List Dt → Prop) (Q : VK) : Prop := ∀ p F' H' ds vs, Ext R F H F' H' → H p = none → ¬ R.M p → H' p = some (.lst vs) → F' p = none → RpL K F' ds vs → P ds → Q (.ref p) H'
def EN (X : Cx) (R : Reg) (G : List Sl) (e : Expr) (P : List Dt → Prop) : Prop := ∀ σ F H Q, Ty X.K R G σ F H → CtN X.K R F H P Q → tOf X e σ H Q
theorem Ext.free {F H F1 H1 : Hp} (e : Ext R F H F1 H1) {p : Addr} (h : H1 p = none) : H p = none := by
  cases q : H p with
  | none => rfl
  | some o => exact absurd h (e.keep0 (by rw [q]; exact fun z => nomatch z))
theorem en_lst {es : List Expr} {P : List Dt → Prop} (h : EA X R G es fun ds => ds.length ≤ 100000 ∧ P ds) : EN X R G (.List es pos) P := fun σ F H Q ty c =>
  tOf.of (pe_lst pa_w) (h σ F H _ ty fun vs F1 H1 ds ex1 r1 ⟨hl, p⟩ => ⟨by rw [← r1.length]; exact Nat.le_trans hl (by decide), fun q hq => c q F1 _ ds vs (ex1.trans (ex1.wf.own hq)) (ex1.free hq) (ex1.wf.new hq) upd_same (ex1.wf.fh.free hq) r1 p⟩)
theorem Ty.setOwn {K : PySem.W.Frag} {σ : St} {F H F' H' : Hp} (ty : Ty K R G σ F H) (ex : Ext R F H F' H') (i : Nat) {p : Addr} {d : Dt} (hp : H p = none) (nM : ¬ R.M p) (fp : F' p = none) (ho : OwO K F' H' p d) : Ty K R (G.set i (.ow d)) (σ.set i (some (.ref p))) F' H' := by
  refine ⟨ex.wf, (ty.sl.ext ex).set i ⟨p, rfl, fp, nM, ho⟩, owns_nodup_set i ty.nd fun z => ?_⟩
  have z2 := (owns_set_sub (g := .no) (v := none) i (fun _ z => nomatch z)).subset z
  obtain ⟨j, d', h1, h2⟩ := owns_mem z2
  obtain ⟨o, so, _, _, oo⟩ := ty.own h1
  rw [h2] at so
  cases so
  exact oo.some hp
theorem Bs.setOwn {F0 H0 F H F' H' : Hp} {σ : St} (b : Bs R F0 H0 G σ F H) (ex : Ext R F H F' H') (i : Nat) {p : Addr} {d : Dt} (hp : H p = none) : Bs R F0 H0 (G.set i (.ow d)) (σ.set i (some (.ref p))) F' H' := by
  refine ⟨(b.step ex).ext, fun o ho => ?_, b.z⟩
  rcases owns_set_own i o ho with e | e
  · rw [e]; exact b.ext.free hp
  · exact b.fresh o e
theorem s_asgN (i : Nat) {x : Str} {e : Expr} {pos' : Pos} (hN : X.N.Nodup) (hi : X.N[i]? = some x) (hx : Loc X.env.scope x) (h : EN X R G e fun ds => k.nx (G.set i (.ow (.lst ds))))
    (hs : swapsWith e (some (.Name x pos')) pos.line X.env = pure false := by rfl) (hf : X.fn x = true ∨ X.env.scope.names.lookup x = some .local := by first | exact .inl rfl | exact .inr rfl | assumption) : S1 X R (.Assign [.Name x pos'] e pos) G k := fun F0 H0 σ F H D ty b c =>
  s1Of.of (ps_set hN hi hx pe_w hs hf) (h σ F H _ ty fun p F1 H1 ds vs ex hp nM ho fp rl q => c.nx _ _ F1 H1 q (ty.setOwn ex i hp nM fp ⟨vs, ho, rl⟩) (b.setOwn ex i hp))
theorem blk_pe {scope : Scope} {e : Expr} (s : Shared) (H : Hp) (C : Addr) (cl : List (Str × Addr)) (fp : List Addr) : PE (X.blk s H scope (compEnvC scope cl C X.env) fp) e (teB X scope e) := ⟨fun pins s' σ H' Q I h => by have z := h _ ⟨s, H, C, cl, fp, rfl⟩; unfold tOf at z; exact z pins s' I⟩
theorem blk_pts {scope : Scope} {ifs : List Expr} (s : Shared) (H : Hp) (C : Addr) (cl : List (Str × Addr)) (fp : List Addr) : PTs (X.blk s H scope (compEnvC scope cl C X.env) fp) ifs (ttB X scope ifs) := ⟨fun pins s' σ H' Q I h => by have z := h _ ⟨s, H, C, cl, fp, rfl⟩; unfold tsOf at z; exact z pins s' I⟩
theorem blk_pg {scope : Scope} {tg : Expr} (s : Shared) (H : Hp) (C : Addr) (cl : List (Str × Addr)) (fp : List Addr) : PG (X.blk s H scope (compEnvC scope cl C X.env) fp) tg (tgB X scope tg) := ⟨fun pins s' σ H' v u Q I r h => by have z := h _ ⟨s, H, C, cl, fp, rfl⟩; unfold tgOf at z; exact z pins s' u I r⟩
theorem en_lc {tg iter elt : Expr} {ifs : List Expr} {scope : Scope} {own : List (Str × Nat)} {P : List Dt → Prop} (hc : X.calm = true) (hN : X.N.Nodup) (ok : BlkOk X.N X.env.scope scope own)
    (h : I X R G tg iter fun ds => ds.length ≤ 100000 ∧ ∃ J, Lc X R G tg elt ifs scope (own.map (·.2)) ds J ∧ ∀ acc, J ds.length acc → P acc) (hs : ∀ x, foldedSetIterable iter X.env x = pure x := by intro _; rfl) : EN X R G (.ListComp elt [⟨tg, iter, ifs, 0⟩] scope pos) P := fun σ F H Q ty c => by
  refine tOf.of (pe_lc hc hN pi_w ok blk_pg blk_pts blk_pe hs) (lc_run ty ?_)
  intro σ1 F1 H1 Q1 ty1 c1
  exact h σ1 F1 H1 Q1 ty1 fun J F2 H2 ds ex it ⟨hl, Jd, lc, fin⟩ => c1 J F2 H2 ds ex it ⟨hl, Jd, lc, fun acc ja D F' H' vacc ex' hD nM hD' fD' ra => c D F' H' acc vacc ex' hD nM hD' fD' ra (fin acc ja)⟩
/-- .. y shared -/
theorem s_lc (i : Nat) {y : Str} {py cpos : Pos} {tg iter elt : Expr} {ifs : List Expr} {scope : Scope} {own : List (Str × Nat)} (hc : X.calm = true) (hN : X.N.Nodup) (hy : X.N[i]? = some y) (hyl : X.env.scope.names.lookup y = some .local)
    (hsw : swapsWith (.ListComp elt [⟨tg, iter, ifs, 0⟩] scope cpos) (some (.Name y py)) pos.line X.env = pure true) (ok : BlkOk X.N X.env.scope scope own)
    (h : I X R G tg iter fun ds => ds.length ≤ 100000 ∧ ∃ J, Lc X R G tg elt ifs scope (own.map (·.2)) ds J ∧ ∀ acc, J ds.length acc → k.nx (G.set i (.sh (.lst acc)))) (hs : ∀ x, foldedSetIterable iter X.env x = pure x := by intro _; rfl) :
    S1 X R (.Assign [.Name y py] (.ListComp elt [⟨tg, iter, ifs, 0⟩] scope cpos) pos) G k := fun F0 H0 σ F H D ty b c => by
  refine s1Of.of (ps_setLc hc hN hy hyl hsw pi_w ok blk_pg blk_pts blk_pe hs) (lc_run ty ?_)
  intro σ1 F1 H1 Q1 ty1 c1
  refine h σ1 F1 H1 Q1 ty1 fun J F2 H2 ds ex it ⟨hl, Jd, lc, fin⟩ => c1 J F2 H2 ds ex it ⟨hl, Jd, lc, fun acc ja D' F' H' vacc ex' hD nM hD' fD' ra => ?_⟩
  have ex2 : Ext R F H (upd F' D' (.lst vacc)) H' := by
    refine ⟨⟨fun a o h => ?_, fun a m => ?_, ex'.wf.oc, ex'.wf.b⟩, ex'.ff.trans (same_upd fD'), ex'.hh, fun a h n => ?_⟩
    · by_cases q : a = D'
      · subst q; rw [upd_same] at h; rw [hD']; exact h
      · rw [upd_ne q] at h; exact ex'.wf.fh a o h
    · rw [upd_ne (fun z => nM (by rw [← z]; exact m))]
      exact ex'.wf.off a m
    · rw [upd_ne (fun z => h.ne (by rw [z]; exact hD))]
      exact ex'.fr a h n
  exact c.nx _ _ _ H' (fin acc ja) ((ty.ext ex2).set i (rp_lst_new fD' ra)) ((b.step ex2).set i)
end

/-! ### the box of a law: [[cells], place, seed] -/
def boxB (b c : Addr) (n : Nat) (H : Hp) : Prop := ∃ (cells : List Int) (p s : Int), H b = some (.lst [.ref c, .int p, .int s]) ∧ H c = some (.lst (cells.map .int)) ∧ cells.length = n ∧ (∀ x ∈ cells, 0 ≤ x) ∧ 0 ≤ s ∧ s < 2147483647
def boxR (b c : Addr) (n : Nat) : Reg := ⟨fun a => a = b ∨ a = c, fun H => b ≠ c ∧ n ≤ 63 ∧ boxB b c n H, fun H H' h ⟨nb, hn, cells, p, s, h1, h2, h3⟩ => ⟨nb, hn, cells, p, s, h b _ (.inl rfl) h1, h c _ (.inr rfl) h2, h3⟩, fun _ _ => True, fun _ _ _ _ _ _ => trivial⟩
/-- stores by values -/
@[irreducible] def seOf (X : Cx) : TSet := fun o i v H Q => ∀ pins s σ ov iv u, Inv X pins σ H s → RelV o ov → RelV i iv → RelV v u → wpAny (model X.prog X.w) X.A (setItem ov iv u) (fun _ s' => ∃ H', Inv X pins σ H' s' ∧ Q H') X.xe s
theorem se_w {X : Cx} : PSet X (seOf X) := fun pins s σ H o i v ov iv u Q I ro ri rv h => by unfold seOf at h; exact h pins s σ ov iv u I ro ri rv
theorem seOf.of {X : Cx} {t : TSet} {o i v : V} {H : Hp} {Q : Hp → Prop} (h : PSet X t) (q : t o i v H Q) : seOf X o i v H Q := by unfold seOf; exact fun pins s σ ov iv u I ro ri rv => h pins s σ H o i v ov iv u Q I ro ri rv q
def WS (X : Cx) (R : Reg) (o i v : Dt) (P : Prop) : Prop := ∀ F H x y z Q, Wf R F H → Rp X.K F o x → Rp X.K F i y → Rp X.K F v z → (∀ H', Ext R F H F H' → P → Q H') → seOf X x y z H Q
section
variable {X : Cx} {R : Reg} {G : List Sl} {pos : Pos} {k : Kt} {b c : Addr} {n : Nat}
theorem s_set {o ix e : Expr} {spos : Pos} (h : E X R G e fun dv => E X R G o fun d => E X R G ix fun di => WS X R d di dv (k.nx G))
    (ha : ∀ v, assign (.Subscript o ix spos) X.env v = (do
      let ov ← holding [v] (eval o X.env)
      let iv ← holding [v, ov] (eval ix X.env)
      standAt spos
      holding [v, ov, iv] (setItem ov iv v)
      release [v, ov, iv] []) := by intro _; rfl)
    (hs : swapsWithSole [.Subscript o ix spos] e pos.line X.env = pure false := by rfl) (hw : swappedStores [.Subscript o ix spos] e X.env = pure none := by rfl)
    (h1 : (assignEach [.Subscript o ix spos] X.env).map (·.2) = [assign (.Subscript o ix spos) X.env] := by rfl) : S1 X R (.Assign [.Subscript o ix spos] e pos) G k := fun F0 H0 σ F H D ty b c =>
  s1Of.of (ps_asg pe_w (pg_sub pe_w pe_w se_w ha) hs hw h1) (h σ F H _ ty fun v F1 H1 d ex r h2 => h2 σ F1 H1 _ (ty.ext ex) fun w F2 H2 d2 ex2 r2 h3 => h3 σ F2 H2 _ ((ty.ext ex).ext ex2) fun u F3 H3 d3 ex3 r3 h4 =>
    h4 F3 H3 w u v _ ex3.wf (r2.mono ex3.ff) r3 ((r.mono ex2.ff).mono ex3.ff) fun H' exn p => c.nx _ _ F3 H' p ((((ty.ext ex).ext ex2).ext ex3).ext exn) ((((b.step ex).step ex2).step ex3).step exn))
theorem wi_box0 {P : Dt → Prop} (p : P (.adr c)) : WI X (boxR b c n) (.adr b) (.int 0) P := fun F H x y Q w rx ry ct => by
  obtain ⟨nb, hn, cells, pl, s, h1, h2, h3⟩ := w.b
  rw [rp_adr.mp rx, rp_int.mp ry]
  exact ixOf.of ix_list ⟨b, _, 0, .ref c, rfl, rfl, SqL.of h1, atI_nat (j := 0) rfl, ct.here w (rp_adr.mpr rfl) p⟩
theorem wi_box1 {P : Dt → Prop} (p : ∀ i, P (.int i)) : WI X (boxR b c n) (.adr b) (.int 1) P := fun F H x y Q w rx ry ct => by
  obtain ⟨nb, hn, cells, pl, s, h1, h2, h3⟩ := w.b
  rw [rp_adr.mp rx, rp_int.mp ry]
  exact ixOf.of ix_list ⟨b, _, 1, .int pl, rfl, rfl, SqL.of h1, atI_nat (j := 1) rfl, ct.here w (rp_int.mpr rfl) (p pl)⟩
theorem wi_box2 {P : Dt → Prop} (p : ∀ i : Int, 0 ≤ i → i < 2147483647 → P (.int i)) : WI X (boxR b c n) (.adr b) (.int 2) P := fun F H x y Q w rx ry ct => by
  obtain ⟨nb, hn, cells, pl, s, h1, h2, h3, h4, h5, h6⟩ := w.b
  rw [rp_adr.mp rx, rp_int.mp ry]
  exact ixOf.of ix_list ⟨b, _, 2, .int s, rfl, rfl, SqL.of h1, atI_nat (j := 2) rfl, ct.here w (rp_int.mpr rfl) (p s h5 h6)⟩
theorem wi_cell {i : Int} {P : Dt → Prop} (h0 : 0 ≤ i) (hi : i < n) (p : ∀ x : Int, 0 ≤ x → P (.int x)) : WI X (boxR b c n) (.adr c) (.int i) P := fun F H x y Q w rx ry ct => by
  obtain ⟨nb, hn, cells, pl, s, h1, h2, h3, h4, h5, h6⟩ := w.b
  rw [rp_adr.mp rx, rp_int.mp ry]
  obtain ⟨j, rfl⟩ : ∃ j : Nat, i = (j : Int) := ⟨i.toNat, by omega⟩
  have hj : j < cells.length := by omega
  refine ixOf.of ix_list ⟨c, _, j, .int cells[j], rfl, rfl, SqL.of h2, atI_nat (j := j) (by rw [List.getElem?_map, List.getElem?_eq_getElem hj]; rfl), ct.here w (rp_int.mpr rfl) (p _ (h4 _ (List.getElem_mem hj)))⟩
theorem wc_lenc {P : Dt → Prop} (p : n ≤ 63 → P (.int (n : Int))) : WC X (boxR b c n) (.builtin "len") [.adr c] P := fun F H xs Q w r ct => by
  obtain ⟨nb, hn, cells, pl, s, h1, h2, h3, h4, h5, h6⟩ := w.b
  obtain ⟨v, rfl, r1⟩ := r.one
  rw [rp_adr.mp r1]
  refine crOf.of call_len_seq ⟨c, _, rfl, .inl (SqL.of h2), ?_⟩
  exact ct.here w (d := .int (n : Int)) (rp_int.mpr (by simp [h3])) (p hn)
theorem box_ext {F H : Hp} {a : Addr} {o : HO} (w : Wf (boxR b c n) F H) (ha : a = b ∨ a = c) (hb : boxB b c n (upd H a o)) : Ext (boxR b c n) F H F (upd H a o) := by
  have fa : F a = none := w.off a ha
  have hb0 := hb
  refine ⟨⟨fun x u h => ?_, w.off, fun x m => ?_, w.b.1, w.b.2.1, hb⟩, .refl _, fun x u nm h => ?_, fun _ _ h => h⟩
  · rw [upd_ne (fun z => by rw [z, fa] at h; cases h)]
    exact w.fh x u h
  · obtain ⟨cells, i, s, q1, q2, _⟩ := hb0
    rcases m with rfl | rfl
    · exact ⟨_, q1, fun _ z => nomatch z⟩
    · exact ⟨_, q2, fun _ z => nomatch z⟩
  · rw [upd_ne (fun z => nm (by rw [z]; exact ha))]
    exact h
theorem ws_cell {i v : Int} {P : Prop} (h0 : 0 ≤ i) (hi : i < n) (hv : 0 ≤ v) (p : P) : WS X (boxR b c n) (.adr c) (.int i) (.int v) P := fun F H x y z Q w rx ry rz ct => by
  obtain ⟨nb, hn, cells, pl, s, h1, h2, h3, h4, h5, h6⟩ := id w.b
  rw [rp_adr.mp rx, rp_int.mp ry, rp_int.mp rz]
  obtain ⟨j, rfl⟩ : ∃ j : Nat, i = (j : Int) := ⟨i.toNat, by omega⟩
  have hj : j < cells.length := by omega
  refine seOf.of set_list ⟨c, _, j, j, rfl, rfl, h2, ?_, ct _ (box_ext w (.inr rfl) ⟨cells.set j v, pl, s, ?_, ?_, ?_, ?_, h5, h6⟩) p⟩
  · unfold ixN
    rw [List.length_map, if_pos (by omega), if_pos (by omega)]
    simp
  · rw [upd_ne nb]; exact h1
  · rw [upd_same, List.map_set]
  · simp [h3]
  · intro u hu
    rcases List.mem_or_eq_of_mem_set hu with z | z
    · exact h4 u z
    · rw [z]; exact hv
theorem ws_box1 {v : Int} {P : Prop} (p : P) : WS X (boxR b c n) (.adr b) (.int 1) (.int v) P := fun F H x y z Q w rx ry rz ct => by
  obtain ⟨nb, hn, cells, pl, s, h1, h2, h3, h4, h5, h6⟩ := id w.b
  rw [rp_adr.mp rx, rp_int.mp ry, rp_int.mp rz]
  exact seOf.of set_list ⟨b, _, 1, 1, rfl, rfl, h1, rfl, ct _ (box_ext w (.inl rfl) ⟨cells, v, s, upd_same, by rw [upd_ne (Ne.symm nb)]; exact h2, h3, h4, h5, h6⟩) p⟩
theorem ws_box2 {v : Int} {P : Prop} (hv : 0 ≤ v) (hv2 : v < 2147483647) (p : P) : WS X (boxR b c n) (.adr b) (.int 2) (.int v) P := fun F H x y z Q w rx ry rz ct => by
  obtain ⟨nb, hn, cells, pl, s, h1, h2, h3, h4, h5, h6⟩ := id w.b
  rw [rp_adr.mp rx, rp_int.mp ry, rp_int.mp rz]
  exact seOf.of set_list ⟨b, _, 2, 2, rfl, rfl, h1, rfl, ct _ (box_ext w (.inl rfl) ⟨cells, pl, v, upd_same, by rw [upd_ne (Ne.symm nb)]; exact h2, h3, h4, hv, hv2⟩) p⟩
end
/-- a def's promise whose first argument is the box -/
def spB (K : PySem.W.Frag) (m : Nat) (φ : Ph) : Sp := fun vs H Q E => vs.length = m ∧ ∃ b c n F ds q x, Wf (boxR b c n) F H ∧ RpL K F (.adr b :: ds) vs ∧ φ ds q x ∧ (∀ v F' H' d, Ext (boxR b c n) F H F' H' → Rp K F' d v → q d → Q v H') ∧ XOk K (boxR b c n) F H x E
section
variable {X : Cx} {G : List Sl} {pos : Pos} {b c : Addr} {n : Nat}
theorem e_callX {x : Str} {ps : List Str} {φ : Ph} {m j : Nat} {e : Expr} {es : List Expr} {p : Pos} {P : Dt → Prop} (F : Fn X.prog X.w X.K X.mg X.base j x ps [] (spB X.K m φ)) (hr : Room j X.A) (hg : Gl X x)
    (h : EA X (boxR b c n) G (e :: es) fun ds => ∃ ds', ds = .adr b :: ds' ∧ ds.length = m ∧ φ ds' P fun _ _ _ => False)
    (hdb : (x == ("__debug__" : Str)) = false := by decide) (he : starEach (e :: es) X.env = (false, eval e X.env) :: starEach es X.env := by rfl) (hpl : (backTo pos (starEach es X.env)).any (·.1) = false := by rfl) : E X (boxR b c n) G (.Call (.Name x p) (e :: es) [] pos) P := fun σ F' H Q ty ct => by
  obtain ⟨f, fd, ds, a1, a2, a3, a4, a5⟩ := F.ex
  cases a4
  refine tOf.of (pe_call a5 hr hg a1 a2 a3 .nil passLn pa_w hdb he hpl) (h σ F' H _ ty fun vs F1 H1 ds ex r ⟨ds', e1, hl, hφ⟩ => ?_)
  subst e1
  rw [List.append_nil]
  exact ⟨by rw [← hl]; exact r.length.symm, b, c, n, F1, ds', P, fun _ _ _ => False, ex.wf, r, hφ, fun v F2 H2 d ex2 r2 p => ct v F2 H2 d (ex.trans ex2) r2 p, ⟨fun _ _ _ _ _ _ _ z => z.elim, fun _ _ _ z => z.elim⟩⟩
end
section
variable {P : Program} {w : World} {K : PySem.W.Frag} {mg : Str → Option Value} {base : Heap}
theorem fn_okX {x qual : Str} {st : Stmt} {f : Addr} {fd : FuncData} {dvs : List V} {kws : List (Str × V)} {N ps : List Str} {k m : Nat} {φ : Ph} (F : FD K x qual st dvs kws f fd) (Sc : FnScope N ps (defScope st)) (hn : m = ps.length)
    (h : ∀ (X : Cx) (cdv : Value) (A : Around) (outer : List Env) (s : Shared) (H : Hp) (E : XK) (b c : Addr) (n : Nat) (ds : List Dt) (q : Dt → Prop) (xd : XD), X = cxOf (L2N.CX P w) P w K mg base N qual (defScope st) f cdv A outer s H E → Room k X.A → φ ds q xd → ds.length + 1 = m →
      (∀ F, Wf (boxR b c n) F H → XOk K (boxR b c n) F H xd E → S X (boxR b c n) (defBody st) (st0 N (.adr b :: ds)) { nx := fun _ => q .non, rt := q })) : FnOk P w K mg base (L2N.CX P w) (k + 1) f fd ps (spB K m φ) := by
  refine FunD.ok F Sc (fun vs H Q E hh => by rw [hh.1, hn]) fun cdv A outer s H vs Q E hr hh => ?_
  obtain ⟨hl, b, c, n, F0, ds, q, xd, wf, r, hφ, hq, hx⟩ := hh
  have hS := h _ cdv A outer s H E b c n ds q xd rfl hr hφ (by rw [← hl, ← r.length]; rfl) F0 wf hx
  refine ⟨_, pss_w, hS F0 H _ F0 H _ ⟨wf, ?_, by unfold st0; rw [owns0]; exact .nil⟩ ⟨.refl wf, (by unfold st0; rw [owns0]; intro o ho; cases ho), trivial⟩ ⟨fun G σ F1 H1 z _ b => hq .non F1 H1 .non b.ext (rp_non.mpr rfl) z, fun d v F1 H1 z e rd => hq v F1 H1 d e rd z, fun _ _ _ _ z => z.elim, fun _ _ _ _ z => z.elim, fun _ _ _ _ z => z.elim⟩⟩
  unfold st0 L2.start
  rw [r.length]
  exact sls0 _ r
end
end VS
set_option Elab.async false
set_option linter.all false
set_option maxRecDepth 100000
namespace VS
open PySem PySem.Spec L2
section
variable {X : Cx} {R : Reg} {G : List Sl} {pos : Pos} {k : Kt}
/-- the name in slot i -/
theorem e_v (i : Nat) {x : Str} {d : Dt} {P : Dt → Prop} (p : P d) (hg : G[i]? = some (.sh d) := by rfl) (hN : X.N[i]? = some x := by rfl) (hv : Vis X.env.scope x := by first | exact Or.inl rfl | exact Or.inr (Or.inl rfl) | exact Or.inr (Or.inr rfl))
    (hd : (x == ("__debug__" : Str)) = false := by decide) (hcd : (x == ("__classdict__" : Str)) = false := by decide) : E X R G (.Name x pos) P := e_var i hg hN hv p hd hcd
theorem s_a (i : Nat) {x : Str} {e : Expr} {pos' : Pos} (hN : X.N.Nodup) (h : E X R G e fun d => k.nx (G.set i (.sh d))) (hi : X.N[i]? = some x := by rfl) (hx : Loc X.env.scope x := by first | exact Or.inl rfl | exact Or.inr rfl)
    (hs : swapsWith e (some (.Name x pos')) pos.line X.env = pure false := by rfl) (hf : X.fn x = true ∨ X.env.scope.names.lookup x = some .local := by first | exact .inl rfl | exact .inr rfl | assumption) : S1 X R (.Assign [.Name x pos'] e pos) G k := s_asg i hN hi hx h hs hf
theorem s_aN (i : Nat) {x : Str} {e : Expr} {pos' : Pos} (hN : X.N.Nodup) (h : EN X R G e fun ds => k.nx (G.set i (.ow (.lst ds)))) (hi : X.N[i]? = some x := by rfl) (hx : Loc X.env.scope x := by first | exact Or.inl rfl | exact Or.inr rfl)
    (hs : swapsWith e (some (.Name x pos')) pos.line X.env = pure false := by rfl) (hf : X.fn x = true ∨ X.env.scope.names.lookup x = some .local := by first | exact .inl rfl | exact .inr rfl | assumption) : S1 X R (.Assign [.Name x pos'] e pos) G k := s_asgN i hN hi hx h hs hf
theorem a_n (j : Nat) {x : Str} {d : Dt} (hN : X.N.Nodup) (hi : X.N[j]? = some x := by rfl) (hx : Loc X.env.scope x := by first | exact Or.inl rfl | exact Or.inr rfl) (hf : X.fn x = true ∨ X.env.scope.names.lookup x = some .local := by first | exact .inl rfl | exact .inr rfl | assumption) : A X (.Name x pos) d [(j, d)] := a_name j hN hi hx hf

/-! ### tests with an answer that is known -/
theorem ite_b {b : Bool} {A B : Prop} (h1 : b = true → A) (h2 : b = false → B) : if b = true then A else B := by
  cases b with
  | true => rw [if_pos rfl]; exact h1 rfl
  | false => rw [if_neg (by decide)]; exact h2 rfl
theorem ite_t {b : Bool} {A B : Prop} (h : b = true) (h1 : A) : if b = true then A else B := by rw [if_pos h]; exact h1
theorem ite_f {b : Bool} {A B : Prop} (h : b = false) (h1 : B) : if b = true then A else B := by rw [if_neg (by rw [h]; decide)]; exact h1
theorem tw_andD {a b : Expr} {es : List Expr} {u v : Bool} {P : Bool → Prop} (h1 : T X R G a fun k => k = u) (h2 : u = true → TW X R G (.BoolOp .And (b :: es) pos) fun k => k = v) (p : P (u && v)) : TW X R G (.BoolOp .And (a :: b :: es) pos) P := tw_and (h1.imp fun k e => by
  subst e
  cases k with
  | true => rw [if_pos rfl]; exact fun σ F H Q ty c => h2 rfl σ F H Q ty fun b F' H' ex e => c b F' H' ex (by rw [e]; exact p)
  | false => rw [if_neg (by decide)]; exact p)
theorem tw_orD {a b : Expr} {es : List Expr} {u v : Bool} {P : Bool → Prop} (h1 : T X R G a fun k => k = u) (h2 : u = false → TW X R G (.BoolOp .Or (b :: es) pos) fun k => k = v) (p : P (u || v)) : TW X R G (.BoolOp .Or (a :: b :: es) pos) P := tw_or (h1.imp fun k e => by
  subst e
  cases k with
  | false => rw [if_neg (by decide)]; exact fun σ F H Q ty c => h2 rfl σ F H Q ty fun b F' H' ex e => c b F' H' ex (by rw [e]; exact p)
  | true => rw [if_pos rfl]; exact p)
theorem e_andD {a b : Expr} {es : List Expr} {u v : Bool} {P : Dt → Prop} (h1 : E X R G a fun d => d = .bl u) (h2 : u = true → E X R G (.BoolOp .And (b :: es) pos) fun d => d = .bl v) (p : P (.bl (u && v))) : E X R G (.BoolOp .And (a :: b :: es) pos) P := e_and (h1.imp fun d e => ⟨u, e, by
  cases u with
  | true => rw [if_pos rfl]; exact (h2 rfl).imp fun d e => by rw [e]; exact p
  | false => rw [if_neg (by decide)]; exact p⟩)
/-- a op1 b op2 c, with answers that are known -/
theorem e_chainD {a b c : Expr} {op op' : CmpOp} {u v : Bool} {P : Dt → Prop} (h : E X R G a fun d1 => E X R G b fun d2 => W2 X R (compareOp op) d1 d2 fun d => d = .bl u ∧ (u = true → E X R G c fun d3 => W2 X R (compareOp op') d2 d3 fun d => d = .bl v)) (p : P (.bl (u && v)))
    (hm : lastMarks [op, op'] [b, c] = false := by with_unfolding_all rfl) : E X R G (.Compare a [op, op'] [b, c] pos) P := by
  refine e_chain ?_ hm
  refine h.imp fun d1 h1 => h1.imp fun d2 h2 => fun F H x y Q w rx ry ct => h2 F H x y Q w rx ry fun z F' H' d ex r hh => ct z F' H' d ex r ⟨u, hh.1, ?_⟩
  cases u with
  | true => rw [if_pos rfl]; exact (hh.2 rfl).imp fun d3 h3 => fun F H x y Q w rx ry ct => h3 F H x y Q w rx ry fun z F' H' d ex r e => ct z F' H' d ex r (by rw [e]; exact p)
  | false => rw [if_neg (by decide)]; exact p
theorem t_chainD {a b c : Expr} {op op' : CmpOp} {u v : Bool} {P : Bool → Prop} (h : E X R G a fun d1 => E X R G b fun d2 => W2 X R (compareOp op) d1 d2 fun d => d = .bl u ∧ (u = true → E X R G c fun d3 => W2 X R (compareOp op') d2 d3 fun d => d = .bl v)) (p : P (u && v))
    (hm : lastMarks [op, op'] [b, c] = false := by with_unfolding_all rfl) : T X R G (.Compare a [op, op'] [b, c] pos) P := by
  refine t_chain ?_ hm
  refine h.imp fun d1 h1 => h1.imp fun d2 h2 => fun F H x y Q w rx ry ct => h2 F H x y Q w rx ry fun z F' H' d ex r hh => ct z F' H' d ex r ⟨u, hh.1, ?_⟩
  cases u with
  | true => rw [if_pos rfl]; exact (hh.2 rfl).imp fun d3 h3 => fun F H x y Q w rx ry ct => h3 F H x y Q w rx ry fun z F' H' d ex r e => ct z F' H' d ex r ⟨v, e, p⟩
  | false => rw [if_neg (by decide)]; exact p

/-! ### a comprehension that maps, that filters and maps -/
theorem lc_map {tg elt : Expr} {scope : Scope} {vs : List Nat} {ds : List Dt} (g : Nat → Dt → Dt) (js : Dt → List (Nat × Dt)) (ha : ∀ (i : Nat) d, ds[i]? = some d → ∀ Y, Blk X scope Y → A Y tg d (js d)) (hj : ∀ d, ∀ p ∈ js d, p.1 ∈ vs)
    (he : ∀ (i : Nat) d, ds[i]? = some d → ∀ Y, Blk X scope Y → E Y R (setsD (wipeD G vs) (js d)) elt fun y => y = g i d) : Lc X R G tg elt [] scope vs ds fun i acc => acc = (ds.take i).mapIdx g := by
  refine ⟨rfl, fun i d acc hd hacc hl => ⟨js d, ha i d hd, hj d, fun Y bY => ts_nil ?_⟩⟩
  rw [if_pos rfl]
  intro Z bZ
  refine (he i d hd Z bZ).imp fun y hy => ?_
  have hi : i < ds.length := (List.getElem?_eq_some_iff.mp hd).1
  have e2 : ds.take (i + 1) = ds.take i ++ [d] := by rw [List.take_add_one, hd]; rfl
  show acc ++ [y] = (ds.take (i + 1)).mapIdx g
  rw [e2, List.mapIdx_append, hacc, hy]
  simp [List.length_take, Nat.min_eq_left (Nat.le_of_lt hi)]
/-- an item of a written list at a drawn place -/
theorem wi_any {ds : List Dt} {i : Int} {P : Dt → Prop} (h0 : 0 ≤ i) (h1 : i < (ds.length : Nat)) (p : ∀ d ∈ ds, P d) : WI X R (.lst ds) (.int i) P := by
  obtain ⟨j, rfl⟩ : ∃ j : Nat, i = (j : Int) := ⟨i.toNat, by omega⟩
  have hj : j < ds.length := by omega
  exact wi_lst (atI_nat (j := j) (List.getElem?_eq_getElem hj)) (p _ (List.getElem_mem hj))
theorem eo_none {P : Option Int → Prop} (p : P none) : EO X R G none P := p
theorem eo_some {e : Expr} {P : Option Int → Prop} (h : E X R G e fun d => ∃ i, d = .int i ∧ P (some i)) : EO X R G (some e) P := h
theorem b_abs : bootBuiltins "abs" = some (.builtin "abs") := by decide +kernel
theorem b_len : bootBuiltins "len" = some (.builtin "len") := by decide +kernel
theorem b_int : bootBuiltins "int" = some (.type "int") := by decide +kernel
theorem b_str : bootBuiltins "str" = some (.type "str") := by decide +kernel
theorem b_list : bootBuiltins "list" = some (.type "list") := by decide +kernel
theorem b_tuple : bootBuiltins "tuple" = some (.type "tuple") := by decide +kernel
theorem b_isinstance : bootBuiltins "isinstance" = some (.builtin "isinstance") := by decide +kernel
theorem b_min : bootBuiltins "min" = some (.builtin "min") := by decide +kernel
theorem b_any : bootBuiltins "any" = some (.builtin "any") := by decide +kernel
theorem b_ValueError : bootBuiltins "ValueError" = some (.type "ValueError") := by decide +kernel
end
end VS
set_option Elab.async false
set_option linter.all false
set_option maxRecDepth 100000
namespace VS
open PySem PySem.Spec L2

/-! ### the box made -/
def spBox (K : PySem.W.Frag) : Sp := fun vs H Q _ => vs.length = 1 ∧ ∃ (F : Hp) (ns : List Int) (v : V), Same F H ∧ vs = [v] ∧ Rp K F (.frl (ns.map .int)) v ∧ ns.length ≤ 63 ∧
  ∀ (b c : Addr) (H' : Hp) (cells : List Int), b ≠ c → H b = none → H c = none → Same H H' → H' b = some (.lst [.ref c, .int 0, .int 1]) → H' c = some (.lst (cells.map .int)) → cells.length ≤ 63 → (∀ x ∈ cells, 0 ≤ x) → Q (.ref b) H'
section
variable {X : Cx} {G : List Sl} {pos : Pos}
theorem s_retBox {e : Expr} {j1 j2 p1 p2 lp} {D : Ends} {σ : St} {F H : Hp} {i0 i1 : Int} (ty : Ty X.K .nil G σ F H) (h : EN X .nil G e fun ds => ∃ cells : List Int, ds = cells.map .int ∧ cells.length ≤ 63 ∧ ∀ x ∈ cells, 0 ≤ x)
    (q : ∀ (b c : Addr) (H' : Hp) (cells : List Int), b ≠ c → H b = none → H c = none → Same H H' → H' b = some (.lst [.ref c, .int i0, .int i1]) → H' c = some (.lst (cells.map .int)) → cells.length ≤ 63 → (∀ x ∈ cells, 0 ≤ x) → D.rt (.ref b) H')
    (hs : starEach [e, .Constant (.int i0) j1 p1, .Constant (.int i1) j2 p2] X.env = (false, eval e X.env) :: starEach [.Constant (.int i0) j1 p1, .Constant (.int i1) j2 p2] X.env := by rfl)
    (hs2 : starEach [.Constant (.int i0) j1 p1, .Constant (.int i1) j2 p2] X.env = (false, eval (.Constant (.int i0) j1 p1) X.env) :: starEach [.Constant (.int i1) j2 p2] X.env := by rfl)
    (hs3 : starEach [.Constant (.int i1) j2 p2] X.env = (false, eval (.Constant (.int i1) j2 p2) X.env) :: starEach [] X.env := by rfl) :
    s1Of X (.Return (some (.List [e, .Constant (.int i0) j1 p1, .Constant (.int i1) j2 p2] lp)) pos) D σ H := by
  refine s1Of.of (ps_ret (pe_lst (pa_cons pe_w (pa_cons pe_int (pa_cons pe_int pa_nil hs3) hs2) hs))) (h σ F H _ ty fun c F1 H1 ds vs ex hc nM hc1 fc rl hh => ?_)
  obtain ⟨cells, rfl, hl, hp⟩ := hh
  refine ⟨by show 3 ≤ sizeLine; decide, fun b hb => ?_⟩
  have ne : b ≠ c := fun z => by rw [z, hc1] at hb; cases hb
  have sm : Same H H1 := fun a o h => ex.hh a o (fun z => z) h
  refine q b c _ cells ne (sm.free hb) hc (sm.trans (same_upd hb)) upd_same ?_ hl hp
  rw [upd_ne (Ne.symm ne), hc1, rl.ints]
end
/-- the law's promise -/
def spLaw (K : PySem.W.Frag) : Sp := fun vs H Q _ => ∃ (a : Addr) (ns : List Int), vs = [.ref a] ∧ SqL K H a (ns.map V.int) ∧ ns.length ≤ 63 ∧ ∀ H', Q (.bl true) H'
section
variable {P : Program} {w : World} {K : PySem.W.Frag} {mg : Str → Option Value} {base : Heap}
theorem box_ok {x qual : Str} {st : Stmt} {f : Addr} {fd : FuncData} {N : List Str} {p : Str} {k : Nat} (F : FD K x qual st [] [] f fd) (Sc : FnScope N [p] (defScope st))
    (h : ∀ (X : Cx) (cdv : Value) (A : Around) (outer : List Env) (s : Shared) (H : Hp) (E : XK) (ns : List Int) (F : Hp) (σ : St) (D : Ends), X = cxOf (L2N.CX P w) P w K mg base N qual (defScope st) f cdv A outer s H E → ns.length ≤ 63 → Ty K .nil (st0 N [.frl (ns.map .int)]) σ F H →
      (∀ (b c : Addr) (H' : Hp) (cells : List Int), b ≠ c → H b = none → H c = none → Same H H' → H' b = some (.lst [.ref c, .int 0, .int 1]) → H' c = some (.lst (cells.map .int)) → cells.length ≤ 63 → (∀ x ∈ cells, 0 ≤ x) → D.rt (.ref b) H') → sOf X (defBody st) D σ H) :
    FnOk P w K mg base (L2N.CX P w) (k + 1) f fd [p] (spBox K) := by
  refine FunD.ok F Sc (fun vs H Q E hh => by rw [hh.1]; rfl) fun cdv A outer s H vs Q E hr hh => ?_
  obtain ⟨hl, F0, ns, v, sf, rfl, r, hn, q⟩ := hh
  refine ⟨_, pss_w, h _ cdv A outer s H E ns F0 _ _ rfl hn ⟨wf_nil sf, ?_, by unfold st0; rw [owns0]; exact .nil⟩ q⟩
  have r1 : RpL K F0 [.frl (ns.map .int)] [v] := .cons r .nil
  unfold st0 L2.start
  exact sls0 _ r1
/-- the law's own body: the box is made, then the rest is shown for any box -/
theorem law_ok {st : Stmt} {f : Addr} {fd : FuncData} {N : List Str} {p bx : Str} {k : Nat} {p1 p2 p3 p4 pos : Pos} {rest : List Stmt} (F : FD K "law" "law" st [] [] f fd) (Sc : FnScope N [p] (defScope st)) (B : Fn P w K mg base k "_law_box" ["_law_script"] [] (spBox K))
    (hbody : defBody st = .Assign [.Name bx p1] (.Call (.Name "_law_box" p2) [.Name p p3] [] p4) pos :: rest)
    (hN0 : N[0]? = some p) (hN1 : N[1]? = some bx) (hn2 : 2 ≤ N.length) (hl : Loc (defScope st) bx) (hv : Vis (defScope st) p) (hgl : (defScope st).names.lookup ("_law_box" : Str) = some .globalImplicit) (hpd : (p == ("__debug__" : Str)) = false) (hpd2 : (p == ("__classdict__" : Str)) = false)
    (hsw : ∀ env : Env, env.scope = defScope st → swapsWith (.Call (.Name "_law_box" p2) [.Name p p3] [] p4) (some (.Name bx p1)) pos.line env = pure false)
    (hse : ∀ env : Env, starEach [.Name p p3] env = (false, eval (.Name p p3) env) :: starEach [] env)
    (h : ∀ (X : Cx) (cdv : Value) (A : Around) (outer : List Env) (s : Shared) (H : Hp) (E : XK) (b c : Addr) (n : Nat) (ns : List Int), X = cxOf (L2N.CX P w) P w K mg base N "law" (defScope st) f cdv A outer s H E → Room k X.A →
      S X (boxR b c n) rest (.sh (.frl (ns.map .int)) :: .sh (.adr b) :: List.replicate (N.length - 2) .no) { nx := fun _ => False, rt := fun d => d = .bl true }) :
    FnOk P w K mg base (L2N.CX P w) (k + 1) f fd [p] (spLaw K) := by
  refine FunD.ok F Sc (fun vs H Q E hh => by obtain ⟨a, ns, rfl, _⟩ := hh; rfl) fun cdv A outer s H vs Q E hr hh => ?_
  obtain ⟨a, ns, rfl, hS, hn, q⟩ := hh
  obtain ⟨f2, fd2, ds2, a1, a2, a3, a4, a5⟩ := B.ex
  cases a4
  generalize hX : cxOf (L2N.CX P w) P w K mg base N "law" (defScope st) f cdv A outer s H E = X
  have hXN : X.N = N := by rw [← hX]; rfl
  have hXs : X.env.scope = defScope st := by rw [← hX]; rfl
  have hXK : X.K = K := by rw [← hX]; rfl
  have hXm : X.mg = mg := by rw [← hX]; rfl
  have a5' : FnOk X.prog X.w X.K X.mg X.base (L2N.CX X.prog X.w) k f2 fd2 ["_law_script"] (spBox X.K) := by rw [← hX]; exact a5
  have hr' : Room k X.A := by rw [← hX]; exact hr
  have nd : X.N.Nodup := by rw [hXN]; exact Sc.nd
  refine ⟨_, pss_w, ?_⟩
  rw [hbody]
  refine sOf.of (pss_cons (ps_set (i := 1) nd (by rw [hXN]; exact hN1) (by rw [hXs]; exact hl) (pe_call a5' hr' (show X.env.kindOf _ = _ by show X.env.scope.names.lookup _ = _; rw [hXs]; exact hgl) (by rw [hXm]; exact a1) (by rw [hXK]; exact a2) (by rw [hXK]; exact a3) .nil passLn (pa_cons (pe_var (i := 0) (by rw [hXN]; exact hN0) (by rw [hXs]; exact hv) hpd hpd2) pa_nil (hse _)) (by decide) (hse _) rfl) (hsw _ hXs) (by rw [← hX]; exact .inl rfl)) pss_w) ?_
  have hs0 : ∃ r, L2.start N [V.ref a] = some (V.ref a) :: r ∧ r.length = N.length - 1 := ⟨List.replicate (N.length - 1) none, rfl, List.length_replicate⟩
  obtain ⟨r, e0, hr0⟩ := hs0
  refine ⟨.ref a, by rw [e0]; rfl, rfl, H, ns, .ref a, .refl _, rfl, rp_frl.mpr ⟨a, ns.map V.int, rfl, by rw [hXK]; exact hS, RpL.of_ints⟩, hn, fun b c H' cells ne hb hc sm hb' hc' hl' hp' => ?_⟩
  obtain ⟨g, r2, e2⟩ : ∃ g r2, r = g :: r2 := by
    cases r with
    | nil => simp at hr0; omega
    | cons g r2 => exact ⟨g, r2, rfl⟩
  subst e2
  have wf : Wf (boxR b c cells.length) H H' := by
    refine ⟨sm, fun x m => ?_, fun x m => ?_, ne, hl', cells, 0, 1, hb', hc', rfl, hp', by decide, by decide⟩
    · rcases m with m | m
      · rw [m]; exact hb
      · rw [m]; exact hc
    · rcases m with m | m
      · rw [m, hb']; exact ⟨_, rfl, fun _ z => nomatch z⟩
      · rw [m, hc']; exact ⟨_, rfl, fun _ z => nomatch z⟩
  have hst : (L2.start N [V.ref a]).set 1 (some (V.ref b)) = some (V.ref a) :: some (V.ref b) :: r2 := by rw [e0]; rfl
  show sOf X rest _ ((L2.start N [V.ref a]).set 1 (some (V.ref b))) H'
  rw [hst]
  have sl : SlsOk X.K (boxR b c cells.length) H H' (.sh (.frl (ns.map .int)) :: .sh (.adr b) :: List.replicate (N.length - 2) .no) (some (V.ref a) :: some (V.ref b) :: r2) := by
    refine .cons ⟨.ref a, rfl, rp_frl.mpr ⟨a, ns.map V.int, rfl, by rw [hXK]; exact hS, RpL.of_ints⟩⟩ (.cons ⟨.ref b, rfl, rp_adr.mpr rfl⟩ ?_)
    have hlen : N.length - 2 = r2.length := by
      have := hr0
      simp only [List.length_cons] at this
      omega
    rw [hlen]
    clear hst hr0 e0 hlen
    induction r2 with
    | nil => exact .nil
    | cons g r ih => exact .cons trivial ih
  have ow : owns (.sh (.frl (ns.map .int)) :: .sh (.adr b) :: List.replicate (N.length - 2) Sl.no) (some (V.ref a) :: some (V.ref b) :: r2) = [] := owns0 [.frl (ns.map .int), .adr b] _ _
  refine h X cdv A outer s H E b c cells.length ns hX.symm hr' H H' _ H H' _ ⟨wf, sl, by rw [ow]; exact .nil⟩ ⟨.refl wf, (by rw [ow]; intro o ho; cases ho), trivial⟩ ⟨fun _ _ _ _ z => z.elim, fun d v F1 H1 z _ rd => ?_, fun _ _ _ _ z => z.elim, fun _ _ _ _ z => z.elim, fun _ _ _ _ z => z.elim⟩
  subst z
  rw [rp_bl.mp rd]
  exact q H1
end
/-- a law's end over a head by facts, where errors may fly -/
theorem walk_ofW {l : PySem.W.OpenLaw} {n k : Nat} {q : Program} {loose : List Str} {XP : (Str → Option Value) → Heap → Prop} {YP : World → Heap → Prop} {d : DefRec} {x : Str}
    (hn : l.most = some n) (hn2 : n ≤ sizeLine) (hdf : d.params.defaults = []) (hr : Room k callerA)
    (F : ∀ (w : World) (mg : Str → Option Value) (fa : Addr) (h : Heap), YP w h → h.Ns mainGlobals mg → mg d.name = some (.ref fa) →
      ∃ (K : PySem.W.Frag) (fd : FuncData) (sp : Sp), K.In h ∧ (∀ (s : Shared) (u : Value), BindsTo s fd ⟨[u], []⟩ [(x, u)]) ∧
        (∀ (H : Hp) (a : Addr) (ns : List Int), ns.length ≤ n → Only H → SqL K H a (ns.map V.int) → sp [.ref a] H (fun v _ => v = .bl true) fun _ _ _ => False) ∧
        ∀ base : Heap, K.In base → base.Ns mainGlobals mg → FnOk l.prog w K mg base (L2N.CX l.prog w) k fa fd [x] sp) :
    PySem.W.WalkO q loose XP YP l.row.toRowW d [] (fun f vs => PySem.call f vs) := by
  refine Att.attach_call hn hdf fun w s₀ s₁ mg mb fa o pm cd doc a vs ns G Y ho hd hcd hmg hobj hints hlen hg => ?_
  obtain ⟨K, fd, sp, KX, hb, hsp, hF⟩ := F w mg fa _ Y G.T.g hmg
  refine law_call KX G.T.g G.T.b G.T.builtins G.T.nolimit hg hobj hints (Nat.le_trans hlen hn2) hr hF hb (fun H hO hS => hsp H a ns hlen hO hS) fun H e s' hx => ?_
  obtain ⟨_, _, _, _, _, _, _, _, _, _, _, _, z⟩ := hx
  exact z
end VS
set_option Elab.async false
set_option linter.all false
set_option maxRecDepth 100000
namespace VS
open PySem PySem.Spec L2

/-! ### equality of data -/
mutual
def toP : Dt → PyData
  | .non => .none
  | .bl b => .bool b
  | .int i => .int i
  | .str x => .str x
  | .tup xs => .tuple (toPs xs)
  | .lst xs => .list (toPs xs)
  | .ty _ | .adr _ | .frl _ | .dT _ _ | .dK _ _ | .obj _ _ _ | .exv _ _ _ _ | .at_ _ _ | .key _ => .none
def toPs : List Dt → List PyData
  | [] => []
  | x :: xs => toP x :: toPs xs
end
/-- plain data of depth n -/
def okN : Nat → Dt → Bool
  | _, .non => true
  | _, .bl _ => true
  | _, .int _ => true
  | _, .str x => PyData.strOk x
  | n + 1, .tup xs => xs.all (okN n)
  | n + 1, .lst xs => xs.all (okN n)
  | _, _ => false
abbrev okD (d : Dt) : Bool := okN 12 d
def eqD (a b : Dt) : Bool := PyData.eqv (toP a) (toP b)
theorem okN_list {K : PySem.W.Frag} {F H : Hp} {n : Nat} (sf : Same F H) (ih : ∀ d v, okN n d = true → Rp K F d v → Dp K H v (toP d) ∧ (toP d).canLay0 = true ∧ (toP d).depth ≤ n) : ∀ {xs : List Dt} {vs : List V}, xs.all (okN n) = true → RpL K F xs vs → DpAll K H vs (toPs xs) ∧ PyData.canLayAll0 (toPs xs) = true ∧ PyData.depthAll (toPs xs) ≤ n
  | [], vs, _, r => by
    rw [r.of_nil]
    exact ⟨.nil, by simp [toPs, PyData.canLayAll0], by simp [toPs, PyData.depthAll]⟩
  | x :: xs, vs, h, r => by
    obtain ⟨v, t, rfl, r1, r2⟩ := r.of_cons
    rw [List.all_cons, Bool.and_eq_true] at h
    obtain ⟨a1, a2, a3⟩ := ih x v h.1 r1
    obtain ⟨b1, b2, b3⟩ := okN_list sf ih h.2 r2
    refine ⟨.cons a1 b1, ?_, ?_⟩
    · simp only [toPs, PyData.canLayAll0, a2, b2, Bool.and_self]
    · simp only [toPs, PyData.depthAll]
      omega
theorem okN_dp {K : PySem.W.Frag} {F H : Hp} (sf : Same F H) : ∀ (n : Nat) (d : Dt) (v : V), okN n d = true → Rp K F d v → Dp K H v (toP d) ∧ (toP d).canLay0 = true ∧ (toP d).depth ≤ n
  | n, .non, v, h, r => by rw [rp_non.mp r]; exact ⟨.non, by simp [toP, PyData.canLay0], by simp [toP, PyData.depth]⟩
  | n, .bl b, v, h, r => by rw [rp_bl.mp r]; exact ⟨.bl b, by simp [toP, PyData.canLay0], by simp [toP, PyData.depth]⟩
  | n, .int b, v, h, r => by rw [rp_int.mp r]; exact ⟨.int b, by simp [toP, PyData.canLay0], by simp [toP, PyData.depth]⟩
  | n, .str b, v, h, r => by
    rw [rp_str.mp r]
    have h' : PyData.strOk b = true := by
      cases n with
      | zero => simpa [okN] using h
      | succ n => simpa [okN] using h
    exact ⟨.str b, by simp only [toP, PyData.canLay0]; exact h', by simp [toP, PyData.depth]⟩
  | n + 1, .tup xs, v, h, r => by
    obtain ⟨a, vs, rfl, sq, rl⟩ := rp_tup.mp r
    have h' : xs.all (okN n) = true := by simpa [okN] using h
    obtain ⟨b1, b2, b3⟩ := okN_list sf (fun d v => okN_dp sf n d v) h' rl
    exact ⟨by simp only [toP]; exact .tup (sq_t sf sq) b1, by simp only [toP, PyData.canLay0]; exact b2, by simp only [toP, PyData.depth]; omega⟩
  | n + 1, .lst xs, v, h, r => by
    obtain ⟨a, vs, rfl, sq, rl⟩ := rp_lst.mp r
    have h' : xs.all (okN n) = true := by simpa [okN] using h
    obtain ⟨b1, b2, b3⟩ := okN_list sf (fun d v => okN_dp sf n d v) h' rl
    exact ⟨by simp only [toP]; exact .lst (SqL.of (sf _ _ sq)) b1, by simp only [toP, PyData.canLay0]; exact b2, by simp only [toP, PyData.depth]; omega⟩
  | 0, .tup _, v, h, _ => by simp [okN] at h
  | 0, .lst _, v, h, _ => by simp [okN] at h
  | 0, .ty _, v, h, _ => by simp [okN] at h
  | 0, .adr _, v, h, _ => by simp [okN] at h
  | 0, .frl _, v, h, _ => by simp [okN] at h
  | 0, .dT _ _, v, h, _ => by simp [okN] at h
  | 0, .key _, v, h, _ => by simp [okN] at h
  | 0, .dK _ _, v, h, _ => by simp [okN] at h
  | 0, .obj _ _ _, v, h, _ => by simp [okN] at h
  | 0, .exv _ _ _ _, v, h, _ => by simp [okN] at h
  | 0, .at_ _ _, v, h, _ => by simp [okN] at h
  | n + 1, .ty _, v, h, _ => by simp [okN] at h
  | n + 1, .adr _, v, h, _ => by simp [okN] at h
  | n + 1, .frl _, v, h, _ => by simp [okN] at h
  | n + 1, .dT _ _, v, h, _ => by simp [okN] at h
  | n + 1, .key _, v, h, _ => by simp [okN] at h
  | n + 1, .dK _ _, v, h, _ => by simp [okN] at h
  | n + 1, .obj _ _ _, v, h, _ => by simp [okN] at h
  | n + 1, .exv _ _ _ _, v, h, _ => by simp [okN] at h
  | n + 1, .at_ _ _, v, h, _ => by simp [okN] at h
theorem ok_shaped {K : PySem.W.Frag} {F H : Hp} {d : Dt} {v : V} (sf : Same F H) (h : okD d = true) (r : Rp K F d v) : Dp K H v (toP d) ∧ SeqAt.shaped (toP d) = true := by
  obtain ⟨a, b, c⟩ := okN_dp sf 12 d v h r
  refine ⟨a, ?_⟩
  unfold SeqAt.shaped
  rw [b, decide_eq_true (Nat.le_trans c (by decide))]
  rfl
section
variable {X : Cx} {R : Reg} {G : List Sl} {pos : Pos} {k : Kt}
theorem w_eqD {a b : Dt} {P : Dt → Prop} (hu : X.A.units + 64 < cLine) (ha : okD a = true) (hb : okD b = true) (p : P (.bl (eqD a b))) : W2 X R (compareOp .Eq) a b P := fun F H x y Q w rx ry c => by
  obtain ⟨a1, a2⟩ := ok_shaped w.fh ha rx
  obtain ⟨b1, b2⟩ := ok_shaped w.fh hb ry
  exact opOf.of (op_eqD hu) ⟨_, _, a1, b1, a2, b2, c.here w (rp_bl.mpr rfl) p⟩
theorem w_neD {a b : Dt} {P : Dt → Prop} (hu : X.A.units + 64 < cLine) (ha : okD a = true) (hb : okD b = true) (p : P (.bl (!eqD a b))) : W2 X R (compareOp .NotEq) a b P := fun F H x y Q w rx ry c => by
  obtain ⟨a1, a2⟩ := ok_shaped w.fh ha rx
  obtain ⟨b1, b2⟩ := ok_shaped w.fh hb ry
  exact opOf.of (op_neD hu) ⟨_, _, a1, b1, a2, b2, c.here w (rp_bl.mpr rfl) p⟩
end
theorem canLay_of_ok {n : Nat} {d : Dt} (h : okN n d = true) : (toP d).canLay0 = true := by
  have go : ∀ (n : Nat) (d : Dt), okN n d = true → (toP d).canLay0 = true := fun n => by
    induction n with
    | zero =>
      intro d h
      cases d <;> simp_all [okN, toP, PyData.canLay0]
    | succ n ih =>
      have all : ∀ xs : List Dt, xs.all (okN n) = true → PyData.canLayAll0 (toPs xs) = true := fun xs => by
        induction xs with
        | nil => intro _; simp [toPs, PyData.canLayAll0]
        | cons x xs ih2 =>
          intro h
          rw [List.all_cons, Bool.and_eq_true] at h
          simp only [toPs, PyData.canLayAll0, ih x h.1, ih2 h.2, Bool.and_self]
      intro d h
      cases d with
      | tup xs => simp only [toP, PyData.canLay0]; exact all xs (by simpa [okN] using h)
      | lst xs => simp only [toP, PyData.canLay0]; exact all xs (by simpa [okN] using h)
      | _ => simp_all [okN, toP, PyData.canLay0]
  exact go n d h
theorem eqD_refl {d : Dt} (h : okD d = true) : eqD d d = true := SeqAt.eqv_refl _ (canLay_of_ok h)
theorem eqvAll_ints : ∀ xs ys : List Int, PyData.eqvAll (toPs (xs.map .int)) (toPs (ys.map .int)) = decide (xs = ys)
  | [], [] => by simp [toPs, PyData.eqvAll]
  | [], y :: ys => by simp [toPs, PyData.eqvAll]
  | x :: xs, [] => by simp [toPs, PyData.eqvAll]
  | x :: xs, y :: ys => by
    simp only [List.map_cons, toPs, toP, PyData.eqvAll, PyData.eqv]
    rw [eqvAll_ints xs ys]
    by_cases h : x = y <;> by_cases h2 : xs = ys <;> simp [h, h2]
theorem eqD_intsT (xs ys : List Int) : eqD (.tup (xs.map .int)) (.tup (ys.map .int)) = decide (xs = ys) := by
  unfold eqD
  simp only [toP, PyData.eqv]
  exact eqvAll_ints xs ys
theorem ok_ints (xs : List Int) : okD (.lst (xs.map .int)) = true := by
  simp [okN, List.all_map, List.all_eq_true]
section
variable {X : Cx} {R : Reg} {G : List Sl} {pos : Pos} {k : Kt}
/-! ### more operations -/
theorem w_catL {xs ys : List Dt} {P : Dt → Prop} (hl : xs.length + ys.length ≤ 100000) (p : P (.lst (xs ++ ys))) : W2 X R (binaryOp .Add) (.lst xs) (.lst ys) P := fun F H x y Q w rx ry c => by
  obtain ⟨a, vs, rfl, h1, r1⟩ := rp_lst.mp rx
  obtain ⟨b, ws, rfl, h2, r2⟩ := rp_lst.mp ry
  exact opOf.of op_cat ⟨a, b, vs, ws, rfl, rfl, w.fh _ _ h1, w.fh _ _ h2, by rw [← r1.length, ← r2.length]; exact Nat.le_trans hl (by decide), fun q hq => c _ _ _ _ (w.made hq) (rp_lst_new (w.fh.free hq) (r1.append r2)) p⟩
theorem e_rev {e : Expr} {j : Nat} {p1 p2 p3 : Pos} {P : Dt → Prop} (h : E X R G e fun d => ∃ xs, d = .lst xs ∧ P (.lst xs.reverse)) : E X R G (.Subscript e (.Slice none none (some (.UnaryOp .USub (.Constant (.int 1) j p1) p2)) p3) pos) P := fun σ F H Q ty c =>
  tOf.of (pe_revL pe_w) (h σ F H _ ty fun v F1 H1 d ex r ⟨xs, e, p⟩ => by
    subst e
    obtain ⟨a, vs, rfl, h1, r1⟩ := rp_lst.mp r
    refine ⟨a, vs, rfl, SqL.of (ex.wf.fh _ _ h1), fun q hq => c _ _ _ _ (ex.trans (ex.wf.made hq)) (rp_lst_new (ex.wf.fh.free hq) ?_) p⟩
    have rev : ∀ {ds : List Dt} {ws : List V}, RpL X.K F1 ds ws → RpL X.K F1 ds.reverse ws.reverse := fun {ds ws} => by
      induction ds generalizing ws with
      | nil => intro r; rw [r.of_nil]; exact .nil
      | cons d ds ih =>
        intro r
        obtain ⟨v, t, rfl, q1, q2⟩ := r.of_cons
        rw [List.reverse_cons, List.reverse_cons]
        exact (ih q2).append (.cons q1 .nil)
    exact rev r1)
theorem wc_list_lst {xs : List Dt} {P : Dt → Prop} (p : P (.lst xs)) : WC X R (.type "list") [.lst xs] P := fun F H vs Q w r c => by
  obtain ⟨v, rfl, r1⟩ := r.one
  obtain ⟨a, ws, rfl, h1, rl⟩ := rp_lst.mp r1
  exact crOf.of call_list_of ⟨a, ws, rfl, .inl (SqL.of (w.fh _ _ h1)), fun q hq => c _ _ _ _ (w.made hq) (rp_lst_new (w.fh.free hq) rl) p⟩
theorem wc_list_tup {xs : List Dt} {P : Dt → Prop} (p : P (.lst xs)) : WC X R (.type "list") [.tup xs] P := fun F H vs Q w r c => by
  obtain ⟨v, rfl, r1⟩ := r.one
  obtain ⟨a, ws, rfl, h1, rl⟩ := rp_tup.mp r1
  exact crOf.of call_list_of ⟨a, ws, rfl, .inr (sq_t w.fh h1), fun q hq => c _ _ _ _ (w.made hq) (rp_lst_new (w.fh.free hq) rl) p⟩
theorem wc_tuple_lst {xs : List Dt} {P : Dt → Prop} (p : P (.tup xs)) : WC X R (.type "tuple") [.lst xs] P := fun F H vs Q w r c => by
  obtain ⟨v, rfl, r1⟩ := r.one
  obtain ⟨a, ws, rfl, h1, rl⟩ := rp_lst.mp r1
  exact crOf.of call_tuple_of ⟨a, ws, rfl, .inl ⟨SqL.of (w.fh _ _ h1), fun q hq => c _ _ _ _ (w.made hq) (rp_tup_new (w.fh.free hq) rl) p⟩⟩
theorem wc_tuple_tup {xs : List Dt} {P : Dt → Prop} (p : P (.tup xs)) : WC X R (.type "tuple") [.tup xs] P := fun F H vs Q w r c => by
  obtain ⟨v, rfl, r1⟩ := r.one
  obtain ⟨a, ws, rfl, h1, rl⟩ := rp_tup.mp r1
  exact crOf.of call_tuple_of ⟨a, ws, rfl, .inr ⟨sq_t w.fh h1, c.here w r1 p⟩⟩
theorem wc_min {i j : Int} {P : Dt → Prop} (hc : X.calm = true) (p : P (.int (min i j))) : WC X R (.builtin "min") [.int i, .int j] P := fun F H xs Q w r c => by
  obtain ⟨v, u, rfl, h1, h2⟩ := r.two
  rw [rp_int.mp h1, rp_int.mp h2]
  refine crOf.of (call_min2 hc) ⟨i, j, rfl, ?_⟩
  have e : (if j < i then j else i) = min i j := by split <;> omega
  rw [e]
  exact c.here w (rp_int.mpr rfl) p
theorem RpL.bools {K : PySem.W.Frag} {F : Hp} : ∀ {ns : List Bool} {vs : List V}, RpL K F (ns.map Dt.bl) vs → vs = ns.map V.bl
  | [], _, h => h.of_nil
  | n :: ns, _, h => by
    obtain ⟨v, r, rfl, h1, h2⟩ := h.of_cons
    rw [rp_bl.mp h1, RpL.bools h2]
    rfl
theorem wc_any {bs : List Bool} {P : Dt → Prop} (hc : X.calm = true) (p : P (.bl (bs.any id))) : WC X R (.builtin "any") [.lst (bs.map .bl)] P := fun F H xs Q w r c => by
  obtain ⟨v, rfl, r1⟩ := r.one
  obtain ⟨a, ws, rfl, h1, rl⟩ := rp_lst.mp r1
  have e := rl.bools
  subst e
  exact crOf.of (cr_any hc) ⟨a, bs, rfl, SqL.of (w.fh _ _ h1), c.here w (rp_bl.mpr rfl) p⟩
theorem log9 {n : Int} {k : Nat} (h : 0 < n) (hb : n.natAbs < 2 ^ k) (h0 : 0 < k) (hk : k ≤ 9000) : 0 < n ∧ n.natAbs.log2 < 9000 := ⟨h, Nat.lt_of_lt_of_le (PySem.Flt.log2_lt_of h0 hb) hk⟩
theorem wc_len_str {z : Str} {P : Dt → Prop} (hz : z.length ≤ sizeLine) (p : P (.int (z.length : Int))) : WC X R (.builtin "len") [.str z] P := fun F H xs Q w r c => by
  obtain ⟨v, rfl, h1⟩ := r.one
  rw [rp_str.mp h1]
  exact crOf.of call_len_str ⟨z, rfl, hz, c.here w (rp_int.mpr rfl) p⟩
theorem w_addS {y z : Str} {P : Dt → Prop} (h : y.length + z.length ≤ sizeLine) (p : P (.str (y ++ z))) : W2 X R (binaryOp .Add) (.str y) (.str z) P := fun F H a b Q w rx ry c => by
  rw [rp_str.mp rx, rp_str.mp ry]
  exact opOf.of op_add_str ⟨y, z, rfl, rfl, h, c.here w (rp_str.mpr rfl) p⟩
end
end VS
set_option Elab.async false
set_option linter.all false
set_option maxRecDepth 100000
set_option maxHeartbeats 2000000
/-! tuples: cut, joined, repeated; zip -/
namespace VS
open PySem PySem.Spec L2 PyProof.Rows
section
variable {X : Cx} {R : Reg}
theorem w_catT {xs ys : List Dt} {P : Dt → Prop} (hl : xs.length + ys.length ≤ 100000) (p : P (.tup (xs ++ ys))) : W2 X R (binaryOp .Add) (.tup xs) (.tup ys) P := fun F H x y Q w rx ry c => by
  have rx0 := rx
  have ry0 := ry
  obtain ⟨a, vs, rfl, h1, r1⟩ := rp_tup.mp rx
  obtain ⟨b, ws, rfl, h2, r2⟩ := rp_tup.mp ry
  refine opOf.of op_catA ⟨a, b, vs, ws, rfl, rfl, sq_t w.fh h1, sq_t w.fh h2, by rw [← r1.length, ← r2.length]; exact Nat.le_trans hl (by decide), fun e => ?_, fun _ e => ?_, fun _ _ q hq => ?_⟩
  · have : xs = [] := List.eq_nil_of_length_eq_zero (by rw [r1.length, e]; rfl)
    rw [this] at p
    exact c.here w ry0 p
  · have : ys = [] := List.eq_nil_of_length_eq_zero (by rw [r2.length, e]; rfl)
    rw [this, List.append_nil] at p
    exact c.here w rx0 p
  · exact c _ _ _ _ (w.made hq) (rp_tup_new (w.fh.free hq) (r1.append r2)) p
def zipD (xs ys : List Dt) : List Dt := (xs.zip ys).map fun p => .tup [p.1, p.2]
theorem take_map_all {τ υ : Type} (ts : List τ) (f : τ → υ) : ts.take (ts.map f).length = ts := by rw [List.length_map, List.take_length]
/-- a comprehension over what is known item by item -/
theorem lc_of {G : List Sl} {τ : Type} (ts : List τ) (inj out : τ → Dt) (js : τ → List (Nat × Dt)) {tg elt : Expr} {scope : Scope} {vs : List Nat} (ha : ∀ t ∈ ts, ∀ Y, Blk X scope Y → A Y tg (inj t) (js t)) (hj : ∀ t, ∀ p ∈ js t, p.1 ∈ vs)
    (he : ∀ t ∈ ts, ∀ Y, Blk X scope Y → E Y R (setsD (wipeD G vs) (js t)) elt fun y => y = out t) : Lc X R G tg elt [] scope vs (ts.map inj) fun i acc => acc = (ts.take i).map out := by
  refine ⟨rfl, fun i d acc hd hacc hl => ?_⟩
  rw [List.getElem?_map] at hd
  cases e : ts[i]? with
  | none => rw [e] at hd; cases hd
  | some t =>
    rw [e] at hd
    have ed : d = inj t := (Option.some.inj hd).symm
    subst ed
    have ht := List.mem_of_getElem? e
    refine ⟨js t, ha t ht, hj t, fun Y bY => ts_nil ?_⟩
    rw [if_pos rfl]
    intro Z bZ
    refine (he t ht Z bZ).imp fun y hy => ?_
    have e2 : ts.take (i + 1) = ts.take i ++ [t] := by rw [List.take_add_one, e]; rfl
    show acc ++ [y] = (ts.take (i + 1)).map out
    rw [e2, List.map_append, hacc, hy]
    rfl
/-- .. with a test -/
theorem lc_if {G : List Sl} {τ : Type} (ts : List τ) (inj out : τ → Dt) (f : τ → Bool) (js : τ → List (Nat × Dt)) {tg elt tst : Expr} {scope : Scope} {vs : List Nat} (ha : ∀ t ∈ ts, ∀ Y, Blk X scope Y → A Y tg (inj t) (js t)) (hj : ∀ t, ∀ p ∈ js t, p.1 ∈ vs)
    (ht : ∀ t ∈ ts, ∀ Y, Blk X scope Y → T Y R (setsD (wipeD G vs) (js t)) tst fun b => b = f t) (he : ∀ t ∈ ts, f t = true → ∀ Y, Blk X scope Y → E Y R (setsD (wipeD G vs) (js t)) elt fun y => y = out t) : Lc X R G tg elt [tst] scope vs (ts.map inj) fun i acc => acc = ((ts.take i).filter f).map out := by
  refine ⟨rfl, fun i d acc hd hacc hl => ?_⟩
  rw [List.getElem?_map] at hd
  cases e : ts[i]? with
  | none => rw [e] at hd; cases hd
  | some t =>
    rw [e] at hd
    have ed : d = inj t := (Option.some.inj hd).symm
    subst ed
    have hm := List.mem_of_getElem? e
    have e2 : ts.take (i + 1) = ts.take i ++ [t] := by rw [List.take_add_one, e]; rfl
    refine ⟨js t, ha t hm, hj t, fun Y bY => ts_one ((ht t hm Y bY).imp fun b hb => ?_)⟩
    subst hb
    by_cases hf : f t = true
    · rw [if_pos hf]
      intro Z bZ
      refine (he t hm hf Z bZ).imp fun y hy => ?_
      show acc ++ [y] = ((ts.take (i + 1)).filter f).map out
      rw [e2, List.filter_append, List.filter_cons_of_pos hf, List.map_append, hacc, hy]
      rfl
    · rw [if_neg hf]
      show acc = ((ts.take (i + 1)).filter f).map out
      rw [e2, List.filter_append, List.filter_cons_of_neg hf, List.filter_nil, List.append_nil, hacc]
/-- .. of which only a word is known of each item -/
theorem lc_all {G : List Sl} {ds : List Dt} (Pd : Dt → Prop) (js : Dt → List (Nat × Dt)) {tg elt : Expr} {scope : Scope} {vs : List Nat} (ha : ∀ d ∈ ds, ∀ Y, Blk X scope Y → A Y tg d (js d)) (hj : ∀ t, ∀ p ∈ js t, p.1 ∈ vs)
    (he : ∀ d ∈ ds, ∀ Y, Blk X scope Y → E Y R (setsD (wipeD G vs) (js d)) elt Pd) : Lc X R G tg elt [] scope vs ds fun i acc => acc.length = i ∧ ∀ y ∈ acc, Pd y := by
  refine ⟨⟨rfl, fun y hy => nomatch hy⟩, fun i d acc hd hacc hl => ?_⟩
  have hm := List.mem_of_getElem? hd
  refine ⟨js d, ha d hm, hj d, fun Y bY => ts_nil ?_⟩
  rw [if_pos rfl]
  intro Z bZ
  refine (he d hm Z bZ).imp fun y hy => ?_
  refine ⟨by rw [List.length_append, hacc.1]; rfl, fun z hz => ?_⟩
  rcases List.mem_append.mp hz with h | h
  · exact hacc.2 z h
  · rw [List.mem_singleton.mp h]; exact hy
end
end VS
set_option Elab.async false
set_option linter.all false
set_option maxRecDepth 100000
set_option maxHeartbeats 2000000
/-! t[::-1] of a tuple -/
namespace VS
open PySem PySem.Spec L2 PyProof.Rows
section
variable {prog : Program} {w : World} {A : Around} {E : Value → Shared → Prop} {s : Shared}
end
section
variable {X : Cx} {R : Reg} {G : List Sl} {pos : Pos}
end
end VS
set_option Elab.async false
set_option linter.all false
set_option maxRecDepth 100000
namespace VS
open PySem PySem.Spec L2

/-! ### defs with a star parameter -/
/-- def f(*v) -/
def spSt (K : PySem.W.Frag) (φ : Ph) : Sp := fun vs H Q E => vs.length ≤ sizeLine ∧ ∀ p, H p = none → spD K 1 φ [.ref p] (upd H p (.tup vs)) Q E
structure FnS (P : Program) (w : World) (K : PySem.W.Frag) (mg : Str → Option Value) (base : Heap) (k : Nat) (x : Str) (φ : Ph) : Prop where
  ex : ∃ f : Addr, mg x = some (.ref f) ∧ PySem.W.keepIn K (.ref f) = true ∧ FnR P w K mg base (L2N.CX P w) k f (spSt K φ)
theorem FnS.mono {P : Program} {w : World} {K : PySem.W.Frag} {mg : Str → Option Value} {base : Heap} {j k : Nat} {x : Str} {φ : Ph} (F : FnS P w K mg base j x φ) (h : j ≤ k) : FnS P w K mg base k x φ := by
  obtain ⟨f, a, b, c⟩ := F.ex
  exact ⟨f, a, b, c.mono h⟩
section
variable {X : Cx} {R : Reg} {G : List Sl} {pos : Pos} {k : Kt}
end
section
variable {P : Program} {w : World} {K : PySem.W.Frag} {mg : Str → Option Value} {base : Heap}
end
end VS
set_option Elab.async false
set_option linter.all false
set_option maxRecDepth 100000
/-! Fractions in lowest terms, in plain Lean. -/
namespace VS
open PySem PySem.Spec L2

def gcdS (n d : Int) : Int := if d < 0 then -(Int.gcd n d : Int) else (Int.gcd n d : Int)
def mkR (n d : Int) : Int × Int := (n.fdiv (gcdS n d), d.fdiv (gcdS n d))
def IsR (r : Int × Int) : Prop := 1 ≤ r.2 ∧ Int.gcd r.1 r.2 = 1
def ratD (r : Int × Int) : Dt := .tup [.int r.1, .int r.2]
theorem gcdS_ne {n d : Int} (hd : d ≠ 0) : gcdS n d ≠ 0 := by
  have h : 0 < Int.gcd n d := Int.gcd_pos_of_ne_zero_right n hd
  unfold gcdS
  split <;> omega
theorem gcdS_abs (n d : Int) : (gcdS n d).natAbs = Int.gcd n d := by
  unfold gcdS
  split <;> omega
theorem mkR_ex {n d : Int} (hd : d ≠ 0) : ∃ k l : Int, n = gcdS n d * k ∧ d = gcdS n d * l ∧ mkR n d = (k, l) := by
  have h1 : gcdS n d ∣ n := by
    have : (Int.gcd n d : Int) ∣ n := Int.gcd_dvd_left n d
    unfold gcdS
    split
    · exact (Int.neg_dvd).mpr this
    · exact this
  have h2 : gcdS n d ∣ d := by
    have : (Int.gcd n d : Int) ∣ d := Int.gcd_dvd_right n d
    unfold gcdS
    split
    · exact (Int.neg_dvd).mpr this
    · exact this
  obtain ⟨k, hk⟩ := h1
  obtain ⟨l, hl⟩ := h2
  refine ⟨k, l, hk, hl, ?_⟩
  have hg := gcdS_ne (n := n) hd
  unfold mkR
  generalize gcdS n d = g at *
  rw [hk, hl, Int.mul_fdiv_cancel_left k hg, Int.mul_fdiv_cancel_left l hg]
theorem mkR_spec {n d : Int} (hd : d ≠ 0) : IsR (mkR n d) ∧ (mkR n d).1 * d = n * (mkR n d).2 := by
  obtain ⟨k, l, hk, hl, e⟩ := mkR_ex (n := n) hd
  rw [e]
  have hg := gcdS_ne (n := n) hd
  have ha := gcdS_abs n d
  have hs : (gcdS n d < 0 ∧ d < 0) ∨ (0 < gcdS n d ∧ 0 < d) := by
    have h : 0 < Int.gcd n d := Int.gcd_pos_of_ne_zero_right n hd
    by_cases q : d < 0
    · left; unfold gcdS; rw [if_pos q]; omega
    · right; unfold gcdS; rw [if_neg q]; omega
  generalize hG : gcdS n d = g at *
  refine ⟨⟨?_, ?_⟩, ?_⟩
  · show 1 ≤ l
    rcases hs with ⟨h1, h2⟩ | ⟨h1, h2⟩
    · have : 0 < l := by
        rcases Int.lt_trichotomy l 0 with h | h | h
        · have := Int.mul_pos_of_neg_of_neg h1 h
          omega
        · rw [h, Int.mul_zero] at hl; omega
        · exact h
      omega
    · have : 0 < l := by
        rcases Int.lt_trichotomy l 0 with h | h | h
        · have := Int.mul_neg_of_pos_of_neg h1 h
          omega
        · rw [h, Int.mul_zero] at hl; omega
        · exact h
      omega
  · show Int.gcd k l = 1
    have e1 : Int.gcd n d = Int.gcd (g * k) (g * l) := by rw [← hk, ← hl]
    rw [Int.gcd_mul_left] at e1
    rw [ha] at e1
    have h : 0 < Int.gcd n d := Int.gcd_pos_of_ne_zero_right n hd
    have e2 : Int.gcd n d * 1 = Int.gcd n d * Int.gcd k l := by rw [Nat.mul_one]; exact e1
    exact (Nat.eq_of_mul_eq_mul_left h e2).symm
  · show k * d = n * l
    have : k * (g * l) = g * k * l := by rw [← Int.mul_assoc, Int.mul_comm k g]
    rw [← hl, ← hk] at this
    exact this
theorem mkR_le2 {n d : Int} (hd : d ≠ 0) : (mkR n d).2.natAbs ≤ d.natAbs := by
  obtain ⟨k, l, hk, hl, e⟩ := mkR_ex (n := n) hd
  rw [e]
  have hg := gcdS_ne (n := n) hd
  have : d.natAbs = (gcdS n d).natAbs * l.natAbs := by rw [← Int.natAbs_mul, ← hl]
  rw [this]
  exact Nat.le_mul_of_pos_left _ (by omega)
theorem IsR.ne {r : Int × Int} (h : IsR r) : r.2 ≠ 0 := by have := h.1; omega
theorem sz_up {a b : Nat} {i : Int} (ha : i.natAbs < 2 ^ a) (h : a ≤ b) : i.natAbs < 2 ^ b := Nat.lt_of_lt_of_le ha (Nat.pow_le_pow_right (by decide) h)
def addR (t u : Int × Int) : Int × Int := mkR (t.1 * u.2 + u.1 * t.2) (t.2 * u.2)
def sumR (ts : List (Int × Int)) : Int × Int := ts.foldl addR (0, 1)
/-- a fraction below 2 ^ B -/
def SzR (B : Nat) (r : Int × Int) : Prop := r.1.natAbs < 2 ^ B ∧ r.2.natAbs < 2 ^ B
def mulR (t u : Int × Int) : Int × Int := mkR (t.1 * u.1) (t.2 * u.2)
def prodR (ts : List (Int × Int)) : Int × Int := ts.foldl mulR (1, 1)
/-- the sum with no lowering -/
def ndA (s t : Int × Int) : Int × Int := (s.1 * t.2 + t.1 * s.2, s.2 * t.2)
def ndM (s t : Int × Int) : Int × Int := (s.1 * t.1, s.2 * t.2)
theorem eqD_rat (a b : Int × Int) : eqD (ratD a) (ratD b) = decide (a = b) := by
  have h := eqD_intsT [a.1, a.2] [b.1, b.2]
  have e : ([a.1, a.2] = [b.1, b.2]) ↔ a = b := by
    constructor
    · intro h
      injection h with h1 h2
      injection h2 with h2 _
      exact Prod.ext h1 h2
    · rintro rfl; rfl
  rw [decide_eq_decide.mpr e] at h
  exact h
def ph_gcd : Ph := fun ds q _ => ∃ a b, ds = [.int a, .int b] ∧ q (.int (Int.gcd a b : Nat))
theorem u_gcd {a b : Int} {q : Dt → Prop} {x : XD} (_ : True) (p : q (.int (Int.gcd a b : Nat))) : ph_gcd [.int a, .int b] q x := ⟨a, b, rfl, p⟩
theorem gcd_logG {n d : Int} (hd : d ≠ 0) (h : Int.gcd n d < 2 ^ 8999) : CDivA n (gcdS n d) ∧ CDivA d (gcdS n d) := by
  have hg := gcdS_ne (n := n) hd
  have ha := gcdS_abs n d
  have l : (gcdS n d).natAbs.log2 < 9000 := Nat.lt_of_lt_of_le (PySem.Flt.log2_lt_of (k := 8999) (by decide) (by rw [ha]; exact h)) (by decide)
  exact ⟨⟨hg, l⟩, ⟨hg, l⟩⟩
def ph_ratio : Ph := fun ds q _ => ∃ n d : Int, ds = [.int n, .int d] ∧ (d ≠ 0 ∧ Int.gcd n d < 2 ^ 8999) ∧ q (ratD (mkR n d))
theorem u_ratioG {n d : Int} {q : Dt → Prop} {x : XD} (h : d ≠ 0 ∧ Int.gcd n d < 2 ^ 8999) (p : q (ratD (mkR n d))) : ph_ratio [.int n, .int d] q x := ⟨n, d, rfl, h, p⟩
theorem u_ratio {n d : Int} {q : Dt → Prop} {x : XD} (h : d ≠ 0 ∧ d.natAbs < 2 ^ 8999) (p : q (ratD (mkR n d))) : ph_ratio [.int n, .int d] q x := u_ratioG ⟨h.1, Nat.lt_of_le_of_lt (Int.gcd_le_natAbs_right n h.1) h.2⟩ p
end VS
set_option Elab.async false
set_option linter.all false
set_option maxRecDepth 100000
set_option maxHeartbeats 2000000
/-! own error classes: super().__init__(text) in their __init__, raise, try .. except .. as e -/
namespace VS
open PySem PySem.Spec L2

/-! ### the __init__ -/
/-- what K says of an own error class and its __init__ -/
structure IniD (P : Program) (K : PySem.W.Frag) (C fI : Addr) (qual : Str) (params : Arguments) (body : List Stmt) (scope : Scope) (fd : FuncData) : Prop where
  oc : OexC K C
  iC : PySem.W.findIn K (.ref C) "__init__" = some (some (.ref fI))
  tI : PySem.W.typeIn K (.ref fI) = some (.type "function")
  fn : ∃ (oc : Value) (od : Option Addr) (kV doc pm : Value) (an : Option Addr) (ct : Value) (osl : Array (Option Value)) (cda cc : Addr),
    fd = PySem.W.ksFn "__init__" qual params body scope .none kV doc pm an (.ref cda) ct cc ∧ K.lookup fI = some ⟨oc, od, .func fd, osl⟩ ∧ PySem.W.codeIn K (.ref cda) qual = true ∧
    (∃ ccl cdd vs ccs file tf, K.lookup cda = some ⟨ccl, cdd, .fields vs, ccs⟩ ∧ vs[2]? = some (.str file tf) ∧ ((P.main.file : Str) == file) = true) ∧ ∃ cl cld csl, K.lookup cc = some ⟨cl, cld, .cell (some (.ref C)), csl⟩
  cD : ∃ cd, PySem.W.clsIn K C = some cd
  sub : PySem.W.mroIn K C (.ref C) = some true
  any : PySem.W.nsIn K cStatics "thirdparty.any" = some none
  si : PySem.W.ks_superIn K C C "__init__" = some (some (.builtin "ValueError.__init__"))
  sV : PySem.W.subIn K (.ref C) (.type "ValueError") = some true
/-- self, value: the one field f is laid -/
def spI1 (C : Addr) (f : Str) : Sp := fun vs H Q _ => ∃ a y, vs = [.ref a, y] ∧ H a = some (exo a C none) ∧ ∀ dx, H dx = none → dx ≠ a → Q .non (upd (upd H dx (exd dx [(f, y)])) a (exo a C (some dx)))
section
variable {P : Program} {w : World} {K : PySem.W.Frag} {mg : Str → Option Value} {base : Heap}
theorem init_run {CX : CXT} {C fI : Addr} {qual : Str} {params : Arguments} {scope : Scope} {fd : FuncData} {ps N : List Str} {k : Nat} {sp : Sp} {rest : List Stmt} {txt : Str} {p0 p1 p2 p3 p4 p5 : Pos} {j0 : Nat} {ar : Arg}
    {body : List Stmt} (hbody : body = .Expr (.Call (.Attribute (.Call (.Name "super" p0) [] [] p1) "__init__" p2) [.Constant (.str txt) j0 p3] [] p4) p5 :: rest)
    (D : IniD P K C fI qual params body scope fd) (hsup : mg "super" = none) (htop : (P.main.scope.names.lookup ("super" : Str)).isSome = false)
    (Sc : NdefX.NScope N ps ["__class__"] scope) (hks : scope.names.lookup ("super" : Str) = some .globalImplicit) (har : (params.posonlyargs ++ params.args).head? = some ar) (hps : ps.head? = some ar.arg)
    (hev : ∀ env : Env, env.scope = scope → ∃ pl : Sem Bool, eval (.Call (.Attribute (.Call (.Name "super" p0) [] [] p1) "__init__" p2) [.Constant (.str txt) j0 p3] [] p4) env = (do
      let ov ← attributeBase (.Call (.Name "super" p0) [] [] p1) "__init__" env (eval (.Call (.Name "super" p0) [] [] p1) env)
      standAt p2.atName
      let (f, first) ← holding [ov] (getMethod ov "__init__" pl)
      callWith p4 f first (backTo p4 (starEach [.Constant (.str txt) j0 p3] env)) []))
    (hsw : ∀ env : Env, env.scope = scope → swapsWith (.Call (.Attribute (.Call (.Name "super" p0) [] [] p1) "__init__" p2) [.Constant (.str txt) j0 p3] [] p4) none p5.line env = pure false)
    (len : ∀ vs H Q E, sp vs H Q E → vs.length = ps.length)
    (hself : ∀ vs H Q E, sp vs H Q E → ∃ a r, vs = .ref a :: r ∧ H a = some (exo a C none))
    (hrest : ∀ (X : Cx) (H : Hp) (vs : List V) (Q : VK) (E : XK), X.prog = P → X.w = w → X.K = K → X.N = N → X.env.scope = scope → sp vs H Q E → ∃ t, PSs X rest t ∧ t { nx := fun _ H' => Q .non H', rt := Q } (NdefX.startF N vs [none]) H) :
    FnOk P w K mg base CX (k + 1) fI fd ps sp := by
  subst hbody
  refine ⟨len, fun A outer s H args us vs Q E hr e0 hb r hsp => ?_⟩
  obtain ⟨oc, od, kV, doc, pm, an, ct, osl, cda, cc, rfl, lk, hcd, ⟨ccl, cdd, cvs, ccs, file, tf, lcd, hvs, hfile⟩, cl, cld, csl, lcc⟩ := D.fn
  have kpB : ∀ b o, base.get? b = some o → s.heap.get? b = some o := fun b o e => (e0.bs b o e).1
  have KX : K.In s.heap := e0.mod.kin.keeps kpB
  have lim : s.heap.NoLimit := e0.mod.nolimit.keeps kpB
  have hl := len _ _ _ _ hsp
  obtain ⟨a, vr, hvs1, ha⟩ := hself _ _ _ _ hsp
  have hlu : us.length = ps.length := by rw [← r.length]; exact hl
  refine PySem.ks_codeAny_call_defAt (binds := ps.zip us) (body := _) hr.depth (KX _ _ lk) rfl lim (PySem.W.codeRec_of KX hcd) rfl hb Sc.nocell (fun x hx => Sc.par _ (List.of_mem_zip hx).1) (fun h₁ hns kp => ?_) Sc.co Sc.gen Sc.kind
  have hH : H cc = none := (e0.bs _ _ (e0.mod.kin _ _ lcc)).2
  have cellC : s.heap.IsCell cc (some (.ref C)) := ⟨_, KX _ _ lcc, rfl⟩
  have CA : NdefX.CellsAt [("__class__", cc)] ["__class__"] [none] s.heap H := by
    have key : ∀ y c, ([("__class__", cc)] : List (Str × Addr)).lookup y = some c → y = "__class__" ∧ c = cc := fun y c e => by
      rw [List.lookup_cons] at e
      split at e
      · rename_i h
        exact ⟨eq_of_beq h, (Option.some.inj e).symm⟩
      · cases e
    refine ⟨rfl, fun y c e => ?_, fun x y c e1 e2 => (key _ _ e1).1.trans (key _ _ e2).1.symm, fun i y e => ?_⟩
    · obtain ⟨_, rfl⟩ := key y c e
      exact ⟨hH, _, cellC⟩
    · cases i with
      | zero =>
        cases e
        exact ⟨cc, rfl, fun v z => by cases z⟩
      | succ i => cases e
  have I0 := NdefX.inv_startN (CX := CX) (F := ⟨"__init__", qual, params, [], scope, [("__class__", cc)], cda⟩) (f := fI) (tk := s.toks + (ps.zip us).length) (E := E) Sc hr.hd e0 hl r CA hns kp
  obtain ⟨t, ht, hq⟩ := hrest (NdefX.ncx CX P w K mg base N ⟨"__init__", qual, params, [], scope, [("__class__", cc)], cda⟩ fI A outer s H E) H vs Q E rfl rfl rfl rfl rfl hsp
  obtain ⟨t1, ho⟩ := exo_at I0.hok ha
  have KX1 : K.In h₁ := KX.keeps kp
  obtain ⟨cdC, hcC⟩ := D.cD
  obtain ⟨oC, hC1, hC2⟩ : ∃ oC, h₁.get? C = some oC ∧ oC.data = .cls cdC := by
    have hD := hcC
    unfold PySem.W.clsIn at hD
    split at hD
    · rename_i c d cd' sl ho
      cases hD
      exact ⟨_, KX1 _ _ ho, rfl⟩
    · cases hD
  have IA : PySem.W.InstAt h₁ a { cls := .ref C, dict := none, data := .fields #[.ref t1, .none, .none, .none, .bool false, .none] } C none := ⟨ho, rfl, rfl, trivial⟩
  have hmself : (ps.zip us).reverse.lookup ar.arg = some (.ref a) := by
    subst hvs1
    cases r with
    | @cons _ u0 _ ur ra rw' =>
      obtain rfl : u0 = Value.ref a := ra
      obtain ⟨p0', pr, rfl⟩ : ∃ p0' pr, ps = p0' :: pr := by
        cases ps with
        | nil => cases hps
        | cons x y => exact ⟨x, y, rfl⟩
      have e : p0' = ar.arg := Option.some.inj hps
      subst e
      have ndP : (ar.arg :: pr).Nodup := by
        have q := Sc.nd.sublist (List.take_sublist ((ar.arg :: pr).length + 1) N)
        have e2 : N.take ((ar.arg :: pr).length + 1) = (ar.arg :: pr) ++ ([("__class__" : Str)] : List Str) := Sc.pre
        rw [e2] at q
        exact (List.nodup_append.mp q).1
      exact NdefX.zip_look (i := 0) ndP rfl rfl
  obtain ⟨pl, hpl⟩ := hev (PySem.W.ksEnv qual scope s.heap.objs.size fI (.ref cda) cc) rfl
  refine PySem.ks_wpAt_execs_cons (PySem.ks_wpAt_Expr_any (PySem.ks_wpAt_MethodCall (pl := pl) ?_ hpl) (by show (scope.kind == .module && _) = false; rw [Sc.kind]; rfl) (hsw _ rfl))
  have hkc : scope.names.lookup ("__class__" : Str) = some .free := Sc.frk _ (List.mem_singleton.mpr rfl)
  have hka : scope.names.lookup ar.arg = some .local := Sc.par _ (List.mem_of_head? hps)
  refine PySem.ks_wpAt_super_base hks hkc (by decide) rfl (KX1 _ _ lk) rfl har rfl (KX1 _ _ lcd) rfl hvs hfile htop ?_
  obtain ⟨mb, hb1, hb2⟩ := e0.mod.blt
  have kpB1 : ∀ b o, base.get? b = some o → h₁.get? b = some o := fun b o e => kp b o (kpB b o e)
  refine PySem.W.ks_loadName_global Sc.kind hks (Calls.loadGlobal_builtin (e0.mod.glob.keeps kpB1) hsup (hb1.keeps kpB1) ((hb2 _ (by decide)).trans PyProof.Rows.Boot.«super») ⟨rfl, ?_⟩)
  refine wpAny_loadName_free Sc.kind hkc rfl (cellC.keeps kp) ?_
  refine wpAny_loadName_local Sc.kind hka hns hmself ?_
  refine PySem.ks_wpAny_isType_cls hC1 hC2 ⟨rfl, ?_⟩
  refine PySem.ks_wpAny_call_super hC1 hC2 ho rfl (fun c e => by cases e) (PySem.W.looks_mroIn KX1 D.sub) (fun h2 hso kp2 => ?_)
  have KX2 : K.In h2 := KX1.keeps kp2
  have ho2 := kp2 _ _ ho
  have hne : a ≠ C := fun z => by
    rw [z, hC1] at ho
    cases ho
    cases hC2
  refine PySem.W.kxs_getMethod PySem.W.kxs_ValueError hso (PySem.W.looks_opaque KX2 D.any) (l₀ := cdC.mro) ((PySem.W.looks_clsIn KX2 hcC).andThen .now) rfl KX2 (by
    have q := D.si
    unfold PySem.W.ks_superIn at q
    rw [hcC] at q
    exact q) ((show PySem.W.InstAt h2 a { cls := .ref C, dict := none, data := .fields #[.ref t1, .none, .none, .none, .bool false, .none] } C none from ⟨ho2, rfl, rfl, trivial⟩).type.andThen (PySem.W.looks_subIn KX2 D.sV)) hne (by decide) ?_
  have sz12 : h₁.objs.size < h2.objs.size := Heap.lt_size hso
  have szL : s.heap.objs.size < h₁.objs.size := by
    obtain ⟨oL, _, _, e, _⟩ := hns
    exact Heap.lt_size e
  have kp3 : ∀ b o, h₁.get? b = some o → (h2.push (PySem.W.kxs_mw "ValueError.__init__" a)).get? b = some o := fun b o e => Heap.get?_push_of_some _ (kp2 b o e)
  have ho3 := kp3 _ _ ho
  have eu : upd H a (exo a C none) = H := by
    funext b
    by_cases hb : b = a
    · rw [hb, upd_same, ha]
    · rw [upd_ne hb]
  have I3 := I0.write (t' := s.toks + (ps.zip us).length + 1) (x := a) (e := a) (o := exo a C none) (h' := h2.push (PySem.W.kxs_mw "ValueError.__init__" a)) (by rw [ha]; exact True.intro) (.inl rfl) (fun b u _ e => kp3 b u e) ⟨_, ho3⟩ (exo_ok ho3)
  rw [eu] at I3
  have I4 := I3.pins_of (pins' := [(h2.objs.size, PySem.W.kxs_mw "ValueError.__init__" a)]) (fun p hp => by
    rw [List.mem_singleton] at hp
    subst hp
    refine ⟨Heap.get?_push_size _ rfl, I0.hok.fresh (Nat.le_of_lt sz12), ?_, ?_, fun v => by intro z; cases z⟩
    · intro z
      have z : h2.objs.size = s.heap.objs.size := z
      omega
    · intro z
      obtain ⟨_, o, ho', _⟩ := e0.funs.mem z
      have q : h2.objs.size < s.heap.objs.size := Heap.lt_size ho'
      omega)
  refine PySem.W.kxs_callWith (i := "ValueError.__init__") (x := a) rfl (PySem.Calls.evalArgs_plain (thn ((pa_cons pe_str pa_nil).run p4 [(h2.objs.size, PySem.W.kxs_mw "ValueError.__init__" a)] _ (NdefX.startF N vs [none]) H (fun vs' H1 => H1 = H ∧ vs'.length ≤ 10) I4 ⟨rfl, Nat.le_of_ble_eq_true rfl⟩) fun us' s1 hap => ?_))
  obtain ⟨vs', H1, I5, rv, hH1, hlen⟩ := hap
  subst hH1
  have hu := (I5.pin _ (List.mem_append_right _ (List.mem_singleton.mpr rfl))).1
  refine ⟨hu, ?_⟩
  obtain ⟨t5, ho5⟩ := exo_at I5.hok ha
  obtain ⟨nm, q0, N0, bs, bm, sn, sub, ab, col, dd, k0, k1, k2, k3, k5, lC, hbm⟩ := D.oc.cls
  have hCC := I5.kIn _ _ lC
  have hlus : us'.length ≤ sizeLine := by rw [← rv.length, sizeLine_eq]; omega
  obtain ⟨hp, g5, d5, tk5, os5⟩ := s1
  refine wpAny_call (codeAny_of_tree ?_)
  show wpAny _ _ (callAny (.ref h2.objs.size) ⟨[] ++ us', []⟩) _ _ _
  simp only [callAny, List.nil_append]
  refine wpAny_bind (wpAny_load hu ?_)
  simp only [PySem.W.kxs_mw, show (Value.type "method-wrapper" == Value.type "method" || Value.type "method-wrapper" == Value.type "builtin_function_or_method" || Value.type "method-wrapper" == Value.type "method-wrapper") = true by decide, if_true]
  refine PySem.W.KFB.if_so (by decide) ?_
  refine wpAny_bind (PySem.W.check_bound_init F.excBase_ValueError.toExcCallFacts hCC ho5 rfl ?_)
  refine wpAny_bind (wpAny_pure (wpAny_pure ?_))
  refine ⟨plainId_quiet F.excBase_ValueError.init.plain _, codeAny_builtin F.excBase_ValueError.initEntry ?_⟩
  refine PySem.W.exc_init_tree (cls := .ref C) (t0 := t5) (dv := none) (c2 := .none) (c3 := .none) (b4 := .bool false) ho5 hlus (fun h' k6 e6 _ => ?_)
  have J := I5.write (t' := tk5) (x := a) (e := a) (o := exo a C none) (h' := h') (by rw [ha]; exact True.intro) (.inl rfl) (fun b u hb e => k6 b u hb e) ⟨_, e6⟩ (exo_ok e6)
  rw [eu] at J
  refine wpAt_of_wpAny (wpAny_mono (ht.run _ _ _ _ _ J hq) (fun fl s' hs => ?_) fun e s' hs => hs)
  cases fl with
  | ret u =>
    obtain ⟨v, σ', H', J', rv', q'⟩ := hs
    exact ⟨v, H', J'.os, J'.bare, J'.base, J'.hok, rv', q'⟩
  | next =>
    obtain ⟨σ', H', J', q'⟩ := hs
    exact ⟨V.non, H', J'.os, J'.bare, J'.base, J'.hok, rfl, q'⟩
  | brk =>
    obtain ⟨_, _, _, q'⟩ := hs
    exact False.elim q'
  | cont =>
    obtain ⟨_, _, _, q'⟩ := hs
    exact False.elim q'
/-- __init__(self, v): super().__init__(text); self.f = v -/
theorem init_ok1 {CX : CXT} {C fI : Addr} {qual : Str} {params : Arguments} {scope : Scope} {fd : FuncData} {k : Nat} {f v : Str} {txt : Str} {p0 p1 p2 p3 p4 p5 r0 r1 r2 r3 : Pos} {j0 : Nat} {ar : Arg}
    {body : List Stmt} (hbody : body = [.Expr (.Call (.Attribute (.Call (.Name "super" p0) [] [] p1) "__init__" p2) [.Constant (.str txt) j0 p3] [] p4) p5, .Assign [.Attribute (.Name "self" r0) f r1] (.Name v r2) r3])
    (D : IniD P K C fI qual params body scope fd) (hf : PySem.W.findIn K (.ref C) f = some none) (hsup : mg "super" = none) (htop : (P.main.scope.names.lookup ("super" : Str)).isSome = false)
    (Sc : NdefX.NScope ["self", v, "__class__"] ["self", v] ["__class__"] scope) (hks : scope.names.lookup ("super" : Str) = some .globalImplicit) (har : (params.posonlyargs ++ params.args).head? = some ar) (hps : ar.arg = "self")
    (hev : ∀ env : Env, env.scope = scope → ∃ pl : Sem Bool, eval (.Call (.Attribute (.Call (.Name "super" p0) [] [] p1) "__init__" p2) [.Constant (.str txt) j0 p3] [] p4) env = (do
      let ov ← attributeBase (.Call (.Name "super" p0) [] [] p1) "__init__" env (eval (.Call (.Name "super" p0) [] [] p1) env)
      standAt p2.atName
      let (f, first) ← holding [ov] (getMethod ov "__init__" pl)
      callWith p4 f first (backTo p4 (starEach [.Constant (.str txt) j0 p3] env)) []))
    (hsw : ∀ env : Env, env.scope = scope → swapsWith (.Call (.Attribute (.Call (.Name "super" p0) [] [] p1) "__init__" p2) [.Constant (.str txt) j0 p3] [] p4) none p5.line env = pure false)
    (hsw2 : ∀ env : Env, env.scope = scope → swapsWith (.Name v r2) (some (.Attribute (.Name "self" r0) f r1)) r3.line env = pure false)
    (hdv : (v == ("__debug__" : Str)) = false) (hcv : (v == ("__classdict__" : Str)) = false) : FnOk P w K mg base CX (k + 1) fI fd ["self", v] (spI1 C f) := by
  refine init_run hbody D hsup htop Sc hks har (by rw [hps]; rfl) hev hsw (fun vs H Q E ⟨a, y, e, _⟩ => by rw [e]; rfl) (fun vs H Q E ⟨a, y, e, h, _⟩ => ⟨a, [y], e, h⟩) fun X H vs Q E e1 e2 e3 e4 e5 ⟨a, y, ev, ha, hq⟩ => ?_
  subst ev
  refine ⟨_, pss_one (ps_ost (pe_var (i := 0) (x := "self") (by rw [e4]; rfl) (.inl (by rw [e5]; exact Sc.par _ (by simp)))) (pe_var (i := 1) (x := v) (by rw [e4]; rfl) (.inl (by rw [e5]; exact Sc.par _ (by simp))) hdv hcv) (hsw2 _ e5)), ?_⟩
  refine ⟨y, rfl, .ref a, rfl, a, C, rfl, by rw [e3]; exact D.oc, by rw [e3]; exact hf, .inl ⟨ha, fun dx hd hn => hq dx hd hn⟩⟩
end
end VS
set_option Elab.async false
set_option linter.all false
set_option maxRecDepth 100000
set_option maxHeartbeats 2000000
namespace VS
open PySem PySem.Spec L2

/-! ### a region with a word on errors -/
/-- how the error's own fields lie -/
def XDat (K : PySem.W.Frag) (R : Reg) (H0 F H : Hp) (ns : List Str) (ds : List Dt) (d : Option Addr) : Prop :=
  (∃ dx vs, d = some dx ∧ H0 dx = none ∧ ¬ R.M dx ∧ H dx = some (.xd (ns.zip vs)) ∧ ns.length = vs.length ∧ RpL K F ds vs) ∨ (d = none ∧ ns = [] ∧ ds = [])
/-- from the base F0, H0 on: an error that xq allows at the slots G is taken -/
def XKOk (K : PySem.W.Frag) (R : Reg) (F0 H0 : Hp) (xq : List Sl → XD) (W : WX) : Prop :=
  ∀ G σ F H C ns ds d, xq G C ns ds → Ty K R G σ F H → Ext R F0 H0 F H → (∀ o ∈ owns G σ, H0 o = none) → XDat K R H0 F H ns ds d → W (.ref C) d σ H
def Reg.wX (R : Reg) (K : PySem.W.Frag) (xq : List Sl → XD) (W : WX) : Reg := { R with
  Z := fun F0 H0 => XKOk K R F0 H0 xq W
  zs := fun F H F' ff fr z G σ F1 H1 C ns ds d hx ty ex fo dat => z G σ F1 H1 C ns ds d hx ty ⟨ex.wf, ff.trans ex.ff, ex.hh, fun a h n => ex.fr a h (fr a h n)⟩ fo dat }
section
variable {R : Reg} {K : PySem.W.Frag} {xq : List Sl → XD} {W : WX} {F H F' H' : Hp} {G : List Sl} {σ : St}
theorem Wf.un (w : Wf (R.wX K xq W) F H) : Wf R F H := ⟨w.fh, w.off, w.oc, w.b⟩
theorem Wf.wX (w : Wf R F H) : Wf (R.wX K xq W) F H := ⟨w.fh, w.off, w.oc, w.b⟩
theorem Ext.un (e : Ext (R.wX K xq W) F H F' H') : Ext R F H F' H' := ⟨e.wf.un, e.ff, e.hh, e.fr⟩
theorem Ext.wX (e : Ext R F H F' H') : Ext (R.wX K xq W) F H F' H' := ⟨e.wf.wX, e.ff, e.hh, e.fr⟩
theorem SlsOk.un {K' : PySem.W.Frag} {vs : List (Option V)} (h : SlsOk K' (R.wX K xq W) F H G vs) : SlsOk K' R F H G vs := by
  induction h with
  | nil => exact .nil
  | cons h _ ih => exact .cons (by rename_i g v _ _; cases g <;> exact h) ih
theorem SlsOk.wX {K' : PySem.W.Frag} {vs : List (Option V)} (h : SlsOk K' R F H G vs) : SlsOk K' (R.wX K xq W) F H G vs := by
  induction h with
  | nil => exact .nil
  | cons h _ ih => exact .cons (by rename_i g v _ _; cases g <;> exact h) ih
theorem Ty.un {K' : PySem.W.Frag} (t : Ty K' (R.wX K xq W) G σ F H) : Ty K' R G σ F H := ⟨t.wf.un, t.sl.un, t.nd⟩
theorem Ty.wX {K' : PySem.W.Frag} (t : Ty K' R G σ F H) : Ty K' (R.wX K xq W) G σ F H := ⟨t.wf.wX, t.sl.wX, t.nd⟩
end

/-! ### a def that may raise -/
section
variable {P : Program} {w : World} {K : PySem.W.Frag} {mg : Str → Option Value} {base : Heap}
theorem fn_okE {x qual : Str} {st : Stmt} {f : Addr} {fd : FuncData} {dvs : List V} {kws : List (Str × V)} {N ps : List Str} {k n : Nat} {φ : Ph} (F : FD K x qual st dvs kws f fd) (Sc : FnScope N ps (defScope st)) (hn : n = ps.length)
    (h : ∀ (X : Cx) (cdv : Value) (A : Around) (outer : List Env) (s : Shared) (H : Hp) (E : XK) (ds : List Dt) (q : Dt → Prop) (xd : XD), X = cxOf (L2N.CX P w) P w K mg base N qual (defScope st) f cdv A outer s H E → Room k X.A → φ ds q xd → ds.length = n →
      L2N.Takes X (fun cls d _ H => E cls d H) → S X (Reg.nil.wX K (fun _ => xd) (fun cls d _ H => E cls d H)) (defBody st) (st0 N ds) { nx := fun _ => q .non, rt := q }) : FnOk P w K mg base (L2N.CX P w) (k + 1) f fd ps (spD K n φ) := by
  refine FunD.ok F Sc (fun vs H Q E hh => by rw [hh.1, hn]) fun cdv A outer s H vs Q E hr hh => ?_
  obtain ⟨hl, F0, ds, q, xd, sf, r, hφ, hq, hx⟩ := hh
  have hS := h _ cdv A outer s H E ds q xd rfl hr hφ (by rw [r.length, hl]) (L2N.takes_of rfl rfl rfl rfl)
  refine ⟨_, pss_w, hS F0 H _ F0 H _ ⟨(wf_nil sf).wX, ?_, by unfold st0; rw [owns0]; exact .nil⟩ ⟨.refl (wf_nil sf).wX, (by unfold st0; rw [owns0]; intro o ho; cases ho), ?_⟩ ⟨fun G σ F1 H1 z _ b => hq .non F1 H1 .non b.ext.un (rp_non.mpr rfl) z, fun d v F1 H1 z e rd => hq v F1 H1 d e.un rd z, fun _ _ _ _ z => z.elim, fun _ _ _ _ z => z.elim, fun _ _ _ _ z => z.elim⟩⟩
  · unfold st0 L2.start
    rw [r.length]
    exact sls0 _ r
  · intro G σ F1 H1 C ns ds' d hxd ty ex fo dat
    rcases dat with ⟨dx, vs', rfl, e0, _, e1, e2, e3⟩ | ⟨rfl, rfl, rfl⟩
    · exact hx.1 C ns ds' dx vs' F1 H1 hxd ex e1 e2 e3 e0
    · exact hx.2 C F1 H1 hxd ex
end

/-! ### raise -/
/-- an own error class of one field -/
structure Er (P : Program) (w : World) (K : PySem.W.Frag) (mg : Str → Option Value) (base : Heap) (k : Nat) (x f v : Str) (C : Addr) : Prop where
  gl : mg x = some (.ref C)
  oc : OexC K C
  ini : ∃ fI fd, PySem.W.findIn K (.ref C) "__init__" = some (some (.ref fI)) ∧ PySem.W.typeIn K (.ref fI) = some (.type "function") ∧ Binds K fd ["self", v] [] ∧ FnOk P w K mg base (L2N.CX P w) k fI fd ["self", v] (spI1 C f)
theorem Er.mono {P : Program} {w : World} {K : PySem.W.Frag} {mg : Str → Option Value} {base : Heap} {j k : Nat} {x f v : Str} {C : Addr} (E : Er P w K mg base j x f v C) (h : j ≤ k) : Er P w K mg base k x f v C := by
  obtain ⟨a, b, fI, fd, c, d, e, g⟩ := E
  exact ⟨a, b, fI, fd, c, d, e, g.mono h⟩
section
variable {X : Cx} {R : Reg} {G : List Sl} {pos : Pos} {k : Kt} {xq : List Sl → XD} {W : WX}
theorem mk_heap {H1 : Hp} {a dx C : Addr} {y : V} {f : Str} (ha : H1 a = none) (hd : dx ≠ a) : upd (del (upd (upd (upd H1 a (exo a C none)) dx (exd dx [(f, y)])) a (exo a C (some dx))) a) dx (.xd [(f, y)]) = upd H1 dx (.xd [(f, y)]) := by
  funext b
  by_cases h1 : b = dx
  · rw [h1, upd_same, upd_same]
  · rw [upd_ne h1, upd_ne h1]
    by_cases h2 : b = a
    · rw [h2, del_same, ha]
    · rw [del_ne h2, upd_ne h2, upd_ne h1, upd_ne h2]
theorem s_raise1 {j : Nat} {x f v : Str} {C : Addr} {e : Expr} {p pos' : Pos} (tk : L2N.Takes X W) (Er1 : Er X.prog X.w X.K X.mg X.base j x f v C) (hr : Room (j + 1) X.A) (hg : Gl X x) (h : EA X (R.wX X.K xq W) G [e] fun ds => ds.length = 1 ∧ xq G C [f] ds)
    (hc : X.calm = true := by rfl) (hdb : (x == ("__debug__" : Str)) = false := by decide) (he : starEach [e] X.env = (false, eval e X.env) :: starEach [] X.env := by rfl) (hpl : (backTo pos (starEach [] X.env)).any (·.1) = false := by rfl) :
    S1 X (R.wX X.K xq W) (.Raise (some (.Call (.Name x p) [e] [] pos)) none pos') G k := fun F0 H0 σ F H D ty b c => by
  obtain ⟨fI, fd, a1, a2, a3, a4⟩ := Er1.ini
  refine s1Of.of (L2N.ps_raise hc tk (pmk_oexn Er1.oc a1 a2 a4 hr a3 passLn hg Er1.gl pa_w hdb he hpl)) ?_
  refine h σ F H _ ty fun vs F1 H1 ds ex r ⟨hl, hx⟩ => ?_
  have hl2 : vs.length = 1 := by rw [← r.length]; exact hl
  obtain ⟨y, rfl⟩ : ∃ y, vs = [y] := by
    match vs, hl2 with
    | [y], _ => exact ⟨y, rfl⟩
  refine ⟨by rw [hl2]; decide, fun a ha => ⟨a, y, rfl, upd_same .., fun dx hd hne => ⟨rfl, dx, [(f, y)], upd_same .., ?_, ?_, ?_⟩⟩⟩
  · rw [upd_ne hne, upd_same]
  · have q : upd H1 a (exo a C none) dx = none := hd
    rw [upd_ne hne] at q
    exact q
  · have q : H1 dx = none := by
      have q : upd H1 a (exo a C none) dx = none := hd
      rw [upd_ne hne] at q
      exact q
    rw [mk_heap ha hne]
    have ex2 := ex.trans (ex.wf.own (o := .xd [(f, y)]) q)
    exact b.z G σ F1 _ C [f] ds (some dx) hx (ty.ext ex2).un (b.ext.trans ex2).un b.fresh (.inl ⟨dx, [y], rfl, (b.ext.trans ex).free q, ex.wf.new q, upd_same .., rfl, r⟩)
/-! ### expressions that may raise -/
def EX (X : Cx) (R : Reg) (G : List Sl) (W : WX) (e : Expr) (P : Dt → Prop) (xd : XD) : Prop := ∀ σ F H Q, Ty X.K R G σ F H → Ct X.K R F H P Q →
  (∀ F' H' C ns ds d, xd C ns ds → Ext R F H F' H' → XDat X.K R H F' H' ns ds d → W (.ref C) d σ H') → tOf X e σ H Q
theorem ex_call {x : Str} {ps : List Str} {φ : Ph} {n j : Nat} {e : Expr} {es : List Expr} {p : Pos} {P : Dt → Prop} {xd : XD} (tk : L2N.Takes X W) (F : Fn X.prog X.w X.K X.mg X.base j x ps [] (spD X.K n φ)) (hr : Room j X.A) (hg : Gl X x)
    (h : EA X R G (e :: es) fun ds => ds.length = n ∧ φ ds P xd)
    (hdb : (x == ("__debug__" : Str)) = false := by decide) (he : starEach (e :: es) X.env = (false, eval e X.env) :: starEach es X.env := by rfl) (hpl : (backTo pos (starEach es X.env)).any (·.1) = false := by rfl) : EX X R G W (.Call (.Name x p) (e :: es) [] pos) P xd := fun σ F' H Q ty c cx => by
  obtain ⟨f, fd, ds, a1, a2, a3, a4, a5⟩ := F.ex
  cases a4
  refine tOf.of (pe_callS (E := WE W) a5 hr hg a1 a2 a3 (fun σ => L2N.passAt tk σ) pa_w hdb he hpl) (h σ F' H _ ty fun vs F1 H1 ds ex r ⟨hl, hφ⟩ => ?_)
  refine ⟨by rw [← hl]; exact r.length.symm, F1, _, P, xd, ex.wf.fh, r, hφ, fun v F2 H2 d ex2 r2 p => c v F2 H2 d (ex.trans (Ext.of_nil ex.wf ex2)) r2 p, ⟨fun C ns ds dx vs F2 H2 hx ex2 e1 e2 e3 e4 => ?_, fun C F2 H2 hx ex2 => ?_⟩⟩
  · exact cx F2 H2 C ns ds (some dx) hx (ex.trans (Ext.of_nil ex.wf ex2)) (.inl ⟨dx, vs, rfl, ex.free e4, ex.wf.new e4, e1, e2, e3⟩)
  · exact cx F2 H2 C [] [] none hx (ex.trans (Ext.of_nil ex.wf ex2)) (.inr ⟨rfl, rfl, rfl⟩)
theorem XDat.free {K : PySem.W.Frag} {H0 H F F' H' : Hp} {F0 : Hp} {ns : List Str} {ds : List Dt} {d : Option Addr} {R : Reg} (ex : Ext R F0 H0 F H) (x : XDat K R H F' H' ns ds d) : XDat K R H0 F' H' ns ds d := by
  rcases x with ⟨dx, vs, a, b, c⟩ | h
  · exact .inl ⟨dx, vs, a, ex.free b, c⟩
  · exact .inr h
theorem XDat.un {K K' : PySem.W.Frag} {H F H' : Hp} {ns : List Str} {ds : List Dt} {d : Option Addr} (x : XDat K' (R.wX K xq W) H F H' ns ds d) : XDat K' R H F H' ns ds d := x
theorem z_of {F0 H0 F H : Hp} {σ : St} (ty : Ty X.K (R.wX X.K xq W) G σ F H) (b : Bs (R.wX X.K xq W) F0 H0 G σ F H) : ∀ F' H' C ns ds d, xq G C ns ds → Ext (R.wX X.K xq W) F H F' H' → XDat X.K (R.wX X.K xq W) H F' H' ns ds d → W (.ref C) d σ H' := fun F' H' C ns ds d hx ex dat =>
  b.z G σ F' H' C ns ds d hx (ty.ext ex).un (b.ext.trans ex).un b.fresh (XDat.free b.ext dat).un
theorem s_exprX {e : Expr} (h : EX X (R.wX X.K xq W) G W e (fun _ => k.nx G) (xq G)) (hs : swapsWith e none pos.line X.env = pure false := by rfl) : S1 X (R.wX X.K xq W) (.Expr e pos) G k := fun F0 H0 σ F H D ty b c =>
  s1Of.of (ps_expr pe_w hs) (h σ F H _ ty (fun v F1 H1 d ex r p => c.nx _ _ F1 H1 p (ty.ext ex) (b.step ex)) (z_of ty b))
/-! ### try .. except x as n -/
theorem slOk_frz {K : PySem.W.Frag} {F H : Hp} {dx : Addr} {fs : List (Str × V)} (hd : H dx = some (.xd fs)) (ff : Same F (upd F dx (.xd fs))) {g : Sl} {v : Option V} (h : SlOk K R F H g v) : SlOk K R (upd F dx (.xd fs)) H g v := by
  cases g with
  | no => exact trivial
  | sh d => obtain ⟨x, e, r⟩ := h; exact ⟨x, e, r.mono ff⟩
  | ow d =>
    obtain ⟨o, e, fo, nM, ow⟩ := h
    have hne : o ≠ dx := fun z => by
      subst z
      rcases ow.kinds with ⟨xs, rfl⟩ | ⟨ks, xs, rfl⟩ | ⟨ks, xs, rfl⟩ | ⟨C, ns, xs, rfl⟩ | ⟨a, C, ns, xs, rfl⟩ | ⟨a, xs, rfl⟩ | ⟨a, ks, xs, rfl⟩
      · obtain ⟨vs, h, _⟩ := ow; rw [hd] at h; cases h
      · obtain ⟨vs, h, _⟩ := ow; rw [hd] at h; cases h
      · obtain ⟨vs, h, _⟩ := ow; rw [hd] at h; cases h
      · obtain ⟨dx2, vs, h, _⟩ := ow; rw [hd] at h; cases h
      · obtain ⟨_, dx2, vs, h, _⟩ := ow; rw [hd] at h; cases h
      · obtain ⟨_, vs, h, _⟩ := ow; rw [hd] at h; cases h
      · obtain ⟨_, vs, h, _⟩ := ow; rw [hd] at h; cases h
    exact ⟨o, e, by rw [upd_ne hne]; exact fo, nM, ow.mono ff fun u h => h⟩
theorem slsOk_frz {K : PySem.W.Frag} {F H : Hp} {dx : Addr} {fs : List (Str × V)} (hd : H dx = some (.xd fs)) (ff : Same F (upd F dx (.xd fs))) {vs : List (Option V)} (h : SlsOk K R F H G vs) : SlsOk K R (upd F dx (.xd fs)) H G vs := by
  induction h with
  | nil => exact .nil
  | cons h _ ih => exact .cons (slOk_frz hd ff h) ih
theorem s_try {x n : Str} {c : Value} {i : Nat} {body suite : List Stmt} {b₀ : Stmt} {np pos' : Pos} {xq : List Sl → XD} (hN : X.N.Nodup) (hi : X.N[i]? = some n) (hln : X.env.kindOf n = some .local) (hc : Names X x c)
    (hno : ∀ G C ns ds, xq G C ns ds → PySem.W.exmOne X.K (.ref C) c = some true)
    (hb : ∀ W pn xe, L2N.Takes (X.tr pn xe) W → PassesOwn (model X.prog X.w) X.A X.env xe → S (X.tr pn xe) (R.wX X.K xq W) body G k)
    (hsu : ∀ G' C ns ds a oe d pn, xq G' C ns ds → L2N.Zn (.ref C) d oe → (∃ vs, oe.data = .fields vs) → (d = none → ns = [] ∧ ds = []) →
      S (X.suite a ((a, oe) :: pn)) R (b₀ :: suite) (G'.set i (.sh (.exv a ns ds d))) { nx := fun G => k.nx (G.set i .no), rt := k.rt, bk := fun G => k.bk (G.set i .no), ct := fun G => k.ct (G.set i .no) })
    (hs : X.stack = X.env :: X.outer := by rfl) (hf : X.env.frame = some X.env.locals := by rfl) :
    S1 X R (.Try body [.ExceptHandler (some (.Name x np)) (some n) (b₀ :: suite) pos'] [] [] pos) G k := fun F0 H0 σ F H D ty b ck => by
  refine s1Of.of (L2N.ps_try_as (tb := fun W D σ H => ∀ pn xe, L2N.Takes (X.tr pn xe) W → PassesOwn (model X.prog X.w) X.A X.env xe → sOf (X.tr pn xe) body D σ H) (ts := fun a cls d D σ H => ∀ oe pn, L2N.Zn cls d oe → (∃ vs, oe.data = .fields vs) → sOf (X.suite a ((a, oe) :: pn)) (b₀ :: suite) D σ H)
    (Wout := fun _ _ _ _ => False) hs hf hN hi hln hc (fun u s' ⟨_, _, _, _, _, _, _, _, _, _, _, _, _, _, _, _, z⟩ => z.elim) (fun W pn xe tk ps => ⟨fun pins s σ H D I h => (by have z := h pn xe tk ps; unfold sOf at z; exact z pins s I)⟩) (fun a oe cls d pn hz hf => ⟨fun pins s σ H D I h => (by have z := h oe pn hz hf; unfold sOf at z; exact z pins s I)⟩)) ?_
  intro pn xe tk pso
  refine hb _ pn xe tk pso F0 H0 σ F H D ty.wX ⟨b.ext.wX, b.fresh, ?_⟩ ⟨fun G σ F H z ty' b' => ck.nx G σ F H z ty'.un ⟨b'.ext.un, b'.fresh, b.z⟩, fun d v F H z e r => ck.rt d v F H z e.un r, fun d p F H z e => ck.rn d p F H z e.un, fun G σ F H z ty' b' => ck.bk G σ F H z ty'.un ⟨b'.ext.un, b'.fresh, b.z⟩, fun G σ F H z ty' b' => ck.ct G σ F H z ty'.un ⟨b'.ext.un, b'.fresh, b.z⟩⟩
  intro G' σ' F' H' C ns ds d hx ty' ex' fo dat
  refine ⟨true, hno _ _ _ _ hx, fun _ a ha oe pn' hz hf => ?_, fun z => nomatch z⟩
  have setNo : ∀ {G σ F H}, Ty X.K R G σ F H → Ty X.K R (G.set i .no) (σ.set i none) F H := fun ty => ⟨ty.wf, ty.sl.set i (g := .no) trivial, ty.nd.sublist (owns_set_sub i fun _ z => nomatch z)⟩
  have bsNo : ∀ {G σ F H}, Bs R F0 H0 G σ F H → Bs R F0 H0 (G.set i .no) (σ.set i none) F H := fun b => ⟨b.ext, fun o ho => b.fresh o ((owns_set_sub (g := .no) (v := none) i (fun _ z => nomatch z)).subset ho), b.z⟩
  have kk : KOk X.K R F0 H0 { nx := fun G => k.nx (G.set i .no), rt := k.rt, bk := fun G => k.bk (G.set i .no), ct := fun G => k.ct (G.set i .no) } { nx := fun σ' H' => D.nx (σ'.set i none) H', rt := D.rt, bk := fun σ' H' => D.bk (σ'.set i none) H', ct := fun σ' H' => D.ct (σ'.set i none) H' } :=
    ⟨fun G σ F H z ty b => ck.nx _ _ F H z (setNo ty) (bsNo b), ck.rt, fun _ _ _ _ z => z.elim, fun G σ F H z ty b => ck.bk _ _ F H z (setNo ty) (bsNo b), fun G σ F H z ty b => ck.ct _ _ F H z (setNo ty) (bsNo b)⟩
  rcases dat with ⟨dx, vs, rfl, e0, nM, e1, e2, e3⟩ | ⟨rfl, rfl, rfl⟩
  · have ff : Same F' (upd F' dx (.xd (ns.zip vs))) := fun z o h => by
      by_cases q : z = dx
      · subst q
        rw [upd_same]
        exact e1.symm.trans (ty'.wf.fh _ _ h)
      · rw [upd_ne q]; exact h
    have wf2 : Wf R (upd F' dx (.xd (ns.zip vs))) H' := ⟨fun z o h => by
      by_cases q : z = dx
      · subst q
        rw [upd_same] at h
        exact e1.trans h
      · rw [upd_ne q] at h; exact ty'.wf.fh z o h, fun z m => by
      rw [upd_ne (show z ≠ dx from fun q => nM (by rw [← q]; exact m))]
      exact ty'.wf.off z m, ty'.wf.oc, ty'.wf.b⟩
    have ty2 : Ty X.K R G' σ' (upd F' dx (.xd (ns.zip vs))) H' := ⟨wf2, slsOk_frz e1 ff ty'.sl, ty'.nd⟩
    have rE : Rp X.K (upd F' dx (.xd (ns.zip vs))) (.exv a ns ds (some dx)) (.ref a) := rp_exv.mpr ⟨rfl, fun dx' hd => by
      cases hd
      exact ⟨vs, upd_same .., e2, e3.mono ff⟩⟩
    have b2 : Bs R F0 H0 G' σ' (upd F' dx (.xd (ns.zip vs))) H' := ⟨⟨wf2, ex'.ff.trans ff, ex'.hh, fun z h n => by
      rw [upd_ne (show z ≠ dx from fun q => h.ne (by rw [q]; exact e0))]
      exact ex'.fr z h n⟩, fo, b.z⟩
    exact hsu G' C ns ds a oe (some dx) pn' hx hz hf (fun z => nomatch z) F0 H0 _ _ H' _ (ty2.set i rE) (b2.set i) kk
  · have rE : Rp X.K F' (.exv a [] [] none) (.ref a) := rp_exv.mpr ⟨rfl, fun dx' hd => by cases hd⟩
    exact hsu G' C [] [] a oe none pn' hx hz hf (fun _ => ⟨rfl, rfl⟩) F0 H0 _ _ H' _ (ty'.set i rE) (Bs.set ⟨ex', fo, b.z⟩ i) kk
/-! ### in the suite: isinstance(e, C), e.f -/
theorem wc_isE {a D : Addr} {oe : Obj} {od : Option Addr} {pn : List (Addr × Obj)} {C : Value} {b : Bool} {P : Dt → Prop} {dc : Dt} {ns : List Str} {ds : List Dt} (EC : ExcC X.K D) (hz : L2N.Zn (.ref D) od oe) (hf : ∃ vs, oe.data = .fields vs)
    (hc : (∃ n, dc = .ty n ∧ C = .type n) ∨ (∃ c, dc = .adr c ∧ C = .ref c)) (hk : PySem.W.kitOne X.K (.ref D) C = some b) (p : P (.bl b)) : WC (X.suite a ((a, oe) :: pn)) R (.builtin "isinstance") [.exv a ns ds od, dc] P := fun F H xs Q w r c => by
  obtain ⟨v, u, rfl, h1, h2⟩ := r.two
  obtain ⟨rfl, hdx⟩ := rp_exv.mp h1
  unfold crOf
  intro pins s σ us I rv
  cases rv with
  | cons rx rr =>
    cases rr with
    | cons rt rr =>
      cases rr
      cases rx
      rename_i uc
      have ec : uc = C := by
        rcases hc with ⟨n, rfl, rfl⟩ | ⟨c, rfl, rfl⟩
        · rw [rp_ty.mp h2] at rt; exact rt
        · rw [rp_adr.mp h2] at rt; exact rt
      subst ec
      obtain ⟨hget, _⟩ := I.pin (a, oe) (List.mem_append.mpr (.inl List.mem_cons_self))
      obtain ⟨vs, hv⟩ := hf
      have J : ∃ oo, PySem.W.InstAt s.heap a oe D oo := by
        cases od with
        | none =>
          refine ⟨none, hget, hz.1, by unfold PySem.W.notCls; rw [hv] <;> rfl, by rw [hz.2.1]; trivial⟩
        | some dx =>
          obtain ⟨vs', e1, _, _⟩ := hdx dx rfl
          obtain ⟨mA, hns, hr⟩ := I.hok dx _ (w.fh _ _ e1)
          obtain ⟨oo, ho, hl⟩ := lookIn_ns hns
          exact ⟨some oo, hget, hz.1, by unfold PySem.W.notCls; rw [hv] <;> rfl, by rw [hz.2.1]; exact ho⟩
      obtain ⟨oo, J⟩ := J
      obtain ⟨cdD, hcD, _⟩ := PySem.W.any_some EC.hd
      exact PySem.W.kia_one (PySem.W.kitx_exc (by rw [hcD]; rfl) EC.hg EC.hk EC.hs EC.ha EC.hn EC.ht EC.hm) I.kIn J hk (fun z => nomatch z) fun tk => ⟨.bl b, H, I.kept (t' := tk) fun _ _ z => z, rfl, c.here w (rp_bl.mpr rfl) p⟩
/-- e.f -/
theorem e_xf {a C : Addr} {oe : Obj} {od : Option Addr} {pn : List (Addr × Obj)} {e : Expr} {n : Str} {d : Dt} {P : Dt → Prop} (T : XfC X.K C) (hno : PySem.W.findIn X.K (.ref C) n = some none) (hz : L2N.Zn (.ref C) od oe) (hf : ∃ vs, oe.data = .fields vs) (hod : od ≠ none)
    (h : E (X.suite a ((a, oe) :: pn)) R G e fun d' => d' = .exv a [n] [d] od) (p : P d) (hb : attributeBase e n X.env (eval e X.env) = eval e X.env := by rfl) : E (X.suite a ((a, oe) :: pn)) R G (.Attribute e n pos) P := fun σ F H Q ty c => by
  refine tOf.of (pe_xf T hno hz.zc hf pe_w hb) (h σ F H _ ty fun v F1 H1 d' ex r hd' => ?_)
  subst hd'
  obtain ⟨rfl, hdx⟩ := rp_exv.mp r
  obtain ⟨dx, rfl⟩ : ∃ dx, od = some dx := Option.ne_none_iff_exists'.mp hod
  obtain ⟨vs, e1, e2, e3⟩ := hdx dx rfl
  obtain ⟨y, t, rfl, ry, rt⟩ := e3.of_cons
  exact ⟨rfl, rfl, dx, _, y, rfl, ex.wf.fh _ _ e1, by simp [List.lookup], c.step ex y F1 H1 d (.refl ex.wf) ry p⟩
end
end VS
set_option Elab.async false
set_option linter.all false
set_option maxRecDepth 100000
set_option maxHeartbeats 2000000
/-! the head's facts, own error classes among them -/
namespace VS
open PySem PySem.Spec L2

/-! which objects are looked at: a set of addresses as the bits of a number -/
theorem clsB_ok {K : PySem.W.Frag} {C : Addr} (q : clsB K C = true) : ∃ nm q N bs bm sn sub ab col dd k0 k1 k2 k3 k5, K.lookup C = some (excClassObj nm q C N bs bm true sn sub ab col dd k0 k1 k2 k3 k5 "ValueError.__new__") ∧ PySem.HandSPX.refsVE bm = true := by
  unfold clsB at q
  split at q
  · rename_i dd cd sl ho
    split at q
    · rename_i C' bm k0 k1 k2 k3 n k5 hm hs
      simp only [Bool.and_eq_true, beq_iff_eq, Bool.not_eq_true'] at q
      obtain ⟨⟨⟨⟨rfl, rfl⟩, hdel⟩, hdc⟩, ht⟩ := q
      obtain ⟨nm, bs, mro, ns, qn, hd, sn, sub, ab, col, del⟩ := cd
      dsimp only at hm hdel hdc
      subst hm hdel hdc
      have hsl : sl = #[k0, k1, k2, k3, some (.builtin "ValueError.__new__"), k5] := by
        obtain ⟨l⟩ := sl
        simp only at hs
        rw [hs]
      subst hsl
      exact ⟨nm, qn, ns, bs, bm, sn, sub, ab, col, dd, k0, k1, k2, k3, k5, ho, ht⟩
    · cases q
  · cases q
structure ExC (K : PySem.W.Frag) (C : Addr) : Prop where
  oc : OexC K C
  ec : ExcC K C
  xf : XfC K C
theorem excB_ok {K : PySem.W.Frag} {C : Addr} (h : excB K C = true) : ExC K C := by
  unfold excB at h
  obtain ⟨h1, h⟩ := He.ba h
  obtain ⟨h2, h⟩ := He.ba h
  obtain ⟨h3, h⟩ := He.ba h
  obtain ⟨h4, h⟩ := He.ba h
  obtain ⟨h5, h⟩ := He.ba h
  obtain ⟨h6, h⟩ := He.ba h
  obtain ⟨h7, h⟩ := He.ba h
  obtain ⟨h8, h⟩ := He.ba h
  obtain ⟨h9, h⟩ := He.ba h
  obtain ⟨h10, h⟩ := He.ba h
  obtain ⟨h11, h12⟩ := He.ba h
  exact ⟨⟨clsB_ok h1, He.eqO_ok h2, of_decide_eq_true h3, of_decide_eq_true h4, h5⟩, ⟨He.eqO_ok h6, He.eqO_ok h7, of_decide_eq_true h3, h8, He.eqO_ok h9, He.eqO_ok h10, of_decide_eq_true h11, of_decide_eq_true h12⟩, ⟨He.eqO_ok h6, He.eqO_ok h7, of_decide_eq_true h3, h8⟩⟩
theorem iniB_ok {P : Program} {K : PySem.W.Frag} {d : ErD} (h : iniB P.main.file K d = true) (e : iniW K d.x = d.val) : ∃ fd, IniD P K (He.ga K d.x) (He.ma K (He.ga K d.x) "__init__") d.qual d.params d.body d.scope fd ∧ ExC K (He.ga K d.x) ∧ (∀ f ∈ d.fs, PySem.W.findIn K (.ref (He.ga K d.x)) f = some none) := by
  unfold iniB at h
  obtain ⟨h1, h⟩ := He.ba h
  obtain ⟨h2, h⟩ := He.ba h
  obtain ⟨h3, h⟩ := He.ba h
  obtain ⟨h4, h⟩ := He.ba h
  obtain ⟨h5, h⟩ := He.ba h
  obtain ⟨h6, h⟩ := He.ba h
  obtain ⟨h7, h⟩ := He.ba h
  obtain ⟨h8, h⟩ := He.ba h
  obtain ⟨h9, h10⟩ := He.ba h
  have E := excB_ok h1
  unfold iniW at e
  cases q : K.lookup (He.ma K (He.ga K d.x) "__init__") with
  | none => rw [q] at h10; cases h10
  | some o =>
    obtain ⟨oc, od, dt, osl⟩ := o
    rw [q] at h10 e
    cases dt with
    | func fd =>
      obtain ⟨n1, n2, n3, n4, n5, n6, n7, n8, n9, n10, n11, n12, n13, n14, n15⟩ := fd
      have e2 : (some (n1, n2, n3, n4, n5, n6, n7.map (·.1), n15) : InW) = some (("__init__" : Str), d.qual, d.params, FuncBody.stmts d.body, d.scope, mainGlobals, [("__class__" : Str)], builtinsNs) := e
      simp only [Option.some.injEq, Prod.mk.injEq] at e2
      obtain ⟨g1, g2, g3, g4, g5, g6, g7, g8⟩ := e2
      subst g1 g2 g3 g4 g5 g6 g8
      have hc : codeB P.main.file K (He.ga K d.x) d.qual ⟨"__init__", d.qual, d.params, .stmts d.body, d.scope, mainGlobals, n7, n8, n9, n10, n11, n12, n13, n14, builtinsNs⟩ = true := h10
      unfold codeB at hc
      dsimp only at hc
      split at hc
      · rename_i cda nm cc
        obtain ⟨k1, k2⟩ := He.ba hc
        obtain ⟨k2, k3⟩ := He.ba k2
        have en : nm = "__class__" := by
          have : [nm] = [("__class__" : Str)] := g7
          injection this
        subst en
        split at k2
        · rename_i ccl cdd cvs ccs lcd
          split at k2
          · rename_i f tf hv
            split at k3
            · rename_i cl cld C' csl lcc
              have eC : C' = He.ga K d.x := eq_of_beq k3
              subst eC
              refine ⟨_, ⟨E.oc, He.eqO_ok h2, of_decide_eq_true h3, ⟨oc, od, n9, n10, n11, n12, n14, osl, cda, cc, rfl, q, k1, ⟨ccl, cdd, cvs, ccs, f, tf, lcd, hv, k2⟩, cl, cld, csl, lcc⟩, Option.isSome_iff_exists.mp h4, of_decide_eq_true h5, He.eqO_ok h6, He.eqO_ok h7, of_decide_eq_true h8⟩, E, fun f hf => He.eqO_ok (List.all_eq_true.mp h9 f hf)⟩
            · cases k3
          · cases k2
        · cases k2
      · cases hc
    | _ => cases h10
/-! ### the hook -/
section
variable {P : Program} {fa : List He.Fa} {fn : List He5.DefA} {es : List ErD} {ex : PySem.W.Frag → Bool} {K : PySem.W.Frag}
theorem SaysV.d {file : Str} (c : SaysV file fa fn es ex K) : He5.SaysA fa fn K := congrArg (fun z : AlV => z.1) c
theorem SaysV.more {file : Str} (c : SaysV file fa fn es ex K) : ex K = true := (He.ba (show ((es.all fun d => iniB file K d) && ex K) = true from congrArg (fun z : AlV => z.2.1) c)).2
theorem SaysV.err (c : SaysV P.main.file fa fn es ex K) (i : Nat) {d : ErD} (h : es[i]? = some d := by rfl) : ∃ fd, IniD P K (He.ga K d.x) (He.ma K (He.ga K d.x) "__init__") d.qual d.params d.body d.scope fd ∧ ExC K (He.ga K d.x) ∧ (∀ f ∈ d.fs, PySem.W.findIn K (.ref (He.ga K d.x)) f = some none) := by
  have c1 := (He.ba (show ((es.all fun d => iniB P.main.file K d) && ex K) = true from congrArg (fun z : AlV => z.2.1) c)).1
  have c2 : es.map (fun d => iniW K d.x) = es.map ErD.val := congrArg (fun z : AlV => z.2.2) c
  have hm := List.mem_of_getElem? h
  refine iniB_ok (List.all_eq_true.mp c1 d hm) ?_
  have e := congrArg (fun l => l[i]?) c2
  simp only [List.getElem?_map, h, Option.map_some, Option.some.injEq] at e
  exact e
end
end VS
namespace VS
open PySem PySem.Spec L2
theorem binds_ks {P : Program} {K : PySem.W.Frag} {C fI : Addr} {qual : Str} {params : Arguments} {body : List Stmt} {scope : Scope} {fd : FuncData} {ps : List Str} (D : IniD P K C fI qual params body scope fd)
    (h : ∀ (kV doc pm : Value) (an : Option Addr) (cdv ct : Value) (cc : Addr) (us : List Value), us.length = ps.length → bindArgs (PySem.W.ksFn "__init__" qual params body scope .none kV doc pm an cdv ct cc) ⟨us, []⟩ = pure (ps.zip us)) : Binds K fd ps [] := by
  obtain ⟨oc, od, kV, doc, pm, an, ct, osl, cda, cc, rfl, _⟩ := D.fn
  exact .all (h kV doc pm an (.ref cda) ct cc)
section
variable {fa : List He.Fa} {fn : List He5.DefA} {es : List ErD} {xs : List Xa} {K : PySem.W.Frag} {file : Str}
theorem SaysV.xa (c : SaysV file fa fn es (exOf xs) K) (i : Nat) {x : Xa} (h : xs[i]? = some x) : x K = true := List.all_eq_true.mp c.more x (List.mem_of_getElem? h)
theorem SaysV.exm (c : SaysV file fa fn es (exOf xs) K) (i : Nat) {x y : Str} {b : Bool} (h : xs[i]? = some (Xa.exm x y b)) : PySem.W.exmOne K (.ref (He.ga K x)) (.ref (He.ga K y)) = some b := of_decide_eq_true (c.xa i h)
theorem SaysV.kit (c : SaysV file fa fn es (exOf xs) K) (i : Nat) {x y : Str} {b : Bool} (h : xs[i]? = some (Xa.kit x y b)) : PySem.W.kitOne K (.ref (He.ga K x)) (.ref (He.ga K y)) = some b := of_decide_eq_true (c.xa i h)
theorem SaysV.kitT (c : SaysV file fa fn es (exOf xs) K) (i : Nat) {x : Str} {T : String} {b : Bool} (h : xs[i]? = some (Xa.kitT x T b)) : PySem.W.kitOne K (.ref (He.ga K x)) (.type T) = some b := of_decide_eq_true (c.xa i h)
theorem SaysV.tup (c : SaysV file fa fn es (exOf xs) K) (i : Nat) {x : Str} {vs : List He.Dv} (h : xs[i]? = some (Xa.tup x vs)) (F : Hp) : SqT K F (He.ga K x) (vs.map (He.Dv.v K)) := He.tupB_ok (c.xa i h) F
theorem SaysV.exc (c : SaysV file fa fn es (exOf xs) K) (i : Nat) {x : Str} (h : xs[i]? = some (Xa.exc x)) : ExC K (He.ga K x) := excB_ok (c.xa i h)
end
end VS
set_option Elab.async false
set_option linter.all false
set_option maxRecDepth 100000
set_option maxHeartbeats 2000000
/-! calls with keywords -/
namespace VS
open PySem PySem.Spec L2
/-- a def called with n values and the keywords ks: g says how they stand in the parameters' order -/
structure FnK (P : Program) (w : World) (K : PySem.W.Frag) (mg : Str → Option Value) (base : Heap) (k : Nat) (x : Str) (n : Nat) (ks : List Str) (g : {α : Type} → List α → List α → List α) (dvs : List V) (sp : Sp) : Prop where
  ex : ∃ (f : Addr) (fd : FuncData) (ps : List Str) (ds : List Value), mg x = some (.ref f) ∧ PySem.W.keepIn K (.ref f) = true ∧ KBn K fd ps n ks (fun us ws => g us ws ++ ds) (fun vs zs => g vs zs ++ dvs) ∧ FnOk P w K mg base (L2N.CX P w) k f fd ps sp
theorem FnK.mono {P : Program} {w : World} {K : PySem.W.Frag} {mg : Str → Option Value} {base : Heap} {j k : Nat} {x : Str} {n : Nat} {ks : List Str} {g : {α : Type} → List α → List α → List α} {dvs : List V} {sp : Sp} (F : FnK P w K mg base j x n ks g dvs sp) (h : j ≤ k) : FnK P w K mg base k x n ks g dvs sp := by
  obtain ⟨f, fd, ps, ds, a, b, c, d⟩ := F.ex
  exact ⟨f, fd, ps, ds, a, b, c, d.mono h⟩
section
variable {X : Cx} {R : Reg} {G : List Sl} {pos : Pos} {k : Kt}
end
end VS
set_option Elab.async false
set_option linter.all false
set_option maxRecDepth 100000
set_option maxHeartbeats 2000000
/-! texts as lists of code points -/
namespace VS
open PySem PySem.Spec L2
abbrev St' := SX.S
section
variable {X : Cx} {R : Reg} {G : List Sl} {pos : Pos} {k : Kt}
/-- o.partition(e) -/
theorem e_partition {o e : Expr} {apos : Pos} {P : Dt → Prop} (h : E X R G o fun d => ∃ a, d = .str a ∧ E X R G e fun d' => ∃ b, d' = .str b ∧ (b.length == 0) = false ∧ a.length ≤ 100000 ∧ P (.tup [.str (Txt.partition a b).1, .str (Txt.partition a b).2.1, .str (Txt.partition a b).2.2]))
    (hs : starEach [e] X.env = [(false, eval e X.env)] := by rfl) (hbase : attributeBase o "partition" X.env (eval o X.env) = eval o X.env := by rfl) (hline : (apos.endLine == pos.line) = true := by rfl) : E X R G (.Call (.Attribute o "partition" apos) [e] [] pos) P := fun σ F H Q ty c => by
  refine tOf.of (pe_partition pe_w pe_w hs hbase hline) (h σ F H _ ty fun v F1 H1 d ex r ⟨a, ed, h2⟩ => ?_)
  subst ed
  refine ⟨⟨a, rp_str.mp r⟩, ?_⟩
  refine h2 σ F1 H1 _ (ty.ext ex) fun v2 F2 H2 d2 ex2 r2 ⟨b, eb, hb, hl, p⟩ => ?_
  subst eb
  refine ⟨a, b, rp_str.mp r, by rw [rp_str.mp r2], hb, Nat.le_trans hl (by decide), fun q hq => ?_⟩
  have ex3 := ex2.wf.made (o := .tup [.str (Txt.partition a b).1, .str (Txt.partition a b).2.1, .str (Txt.partition a b).2.2]) hq
  exact c _ _ _ _ ((ex.trans ex2).trans ex3) (rp_tup_new (ex2.wf.fh.free hq) (.cons (rp_str.mpr rfl) (.cons (rp_str.mpr rfl) (.cons (rp_str.mpr rfl) .nil)))) p
/-- o.startswith(e) -/
theorem e_startswith {o e : Expr} {apos : Pos} {P : Dt → Prop} (h : E X R G o fun d => ∃ a, d = .str a ∧ E X R G e fun d' => ∃ b, d' = .str b ∧ P (.bl (Txt.startswith a b)))
    (hs : starEach [e] X.env = [(false, eval e X.env)] := by rfl) (hbase : attributeBase o "startswith" X.env (eval o X.env) = eval o X.env := by rfl) (hline : (apos.endLine == pos.line) = true := by rfl) : E X R G (.Call (.Attribute o "startswith" apos) [e] [] pos) P := fun σ F H Q ty c => by
  refine tOf.of (pe_m1 PySem.F.slot_str_startswith PySem.F.type_str_startswith mt_startswith pe_w pe_w hs hbase hline) (h σ F H _ ty fun v F1 H1 d ex r ⟨a, ed, h2⟩ => ?_)
  subst ed
  refine ⟨⟨a, rp_str.mp r⟩, ?_⟩
  refine h2 σ F1 H1 _ (ty.ext ex) fun v2 F2 H2 d2 ex2 r2 ⟨b, eb, p⟩ => ?_
  subst eb
  exact ⟨a, b, rp_str.mp r, by rw [rp_str.mp r2], c _ _ _ _ (ex.trans ex2) (rp_bl.mpr rfl) p⟩
theorem w_notInS {c : Nat} {z : Str} {P : Dt → Prop} (p : P (.bl (!decide (c ∈ z.cps.toList)))) : W2 X R (compareOp .NotIn) (.str ⟨#[c]⟩) (.str z) P := fun F H x y Q w rx ry ct =>
  opOf.of op_notIn_sign ⟨c, z, rp_str.mp rx, rp_str.mp ry, ct.here w (rp_bl.mpr rfl) p⟩
theorem wc_intS {a : Str} {n : Int} {P : Dt → Prop} (hn : intText? a = some n) (hl : a.length ≤ 640) (p : P (.int n)) : WC X R (.type "int") [.str a] P := fun F H xs Q w r c => by
  obtain ⟨v, rfl, h1⟩ := r.one
  rw [rp_str.mp h1]
  exact crOf.of call_int_str ⟨a, n, rfl, hn, hl, c.here w (rp_int.mpr rfl) p⟩
theorem wc_strI {i : Int} {P : Dt → Prop} (hl : i.natAbs.log2 < 1920) (p : P (.str (toString i))) : WC X R (.type "str") [.int i] P := fun F H xs Q w r c => by
  obtain ⟨v, rfl, h1⟩ := r.one
  rw [rp_int.mp h1]
  exact crOf.of call_str_int ⟨i, rfl, hl, c.here w (rp_str.mpr rfl) p⟩
theorem wsl_str {z : Str} {lo hi : Option Int} {P : Dt → Prop} (hz : z.length ≤ 100000) (p : P (.str (cutS z lo hi))) : WSl X R (.str z) lo hi P := fun F H x Q w r c => by
  rw [rp_str.mp r]
  exact slOf.of sl_str ⟨z, rfl, Nat.le_trans hz (by decide), c.here w (rp_str.mpr rfl) p⟩
/-- for c in text -/
theorem i_str {tg e : Expr} {P : List Dt → Prop} (h : E X R G e fun d => ∃ z : Str, d = .str z ∧ P (z.cps.toList.map fun c => .str ⟨#[c]⟩)) : I X R G tg e P := fun σ F H Q ty c =>
  tiOf.of (pi_str pe_w) (h σ F H _ ty fun v F1 H1 d ex r ⟨z, e, p⟩ => by
    subst e
    refine ⟨z, rp_str.mp r, c _ F1 H1 _ ex (fun F2 H2 sf wf => ?_) p⟩
    refine ⟨fun i hi => ?_, fun i d hd => ?_⟩
    · rw [List.length_map, Array.length_toList] at hi
      exact hi
    · rw [List.getElem?_map] at hd
      cases e : z.cps.toList[i]? with
      | none => rw [e] at hd; cases hd
      | some c0 =>
        rw [e] at hd
        cases hd
        rw [Array.getElem?_toList] at e
        refine ⟨(Array.getElem?_eq_some_iff.mp e).1, fun x H' y => ?_⟩
        obtain ⟨rfl, c1, e1, rfl⟩ := y
        rw [e] at e1
        cases e1
        exact ⟨F2, .refl wf, rp_str.mpr rfl⟩)
/-- [.. for c in text], a row of Bools -/
theorem lc_boolS {tg elt : Expr} {scope : Scope} {vs : List Nat} {l : List Nat} (f : Nat → Bool) (j : Nat) (ha : ∀ c Y, Blk X scope Y → A Y tg (.str ⟨#[c]⟩) [(j, .str ⟨#[c]⟩)]) (hj : j ∈ vs)
    (he : ∀ c Y, Blk X scope Y → E Y R (setsD (wipeD G vs) [(j, .str ⟨#[c]⟩)]) elt fun y => y = .bl (f c)) : Lc X R G tg elt [] scope vs (l.map fun c => .str ⟨#[c]⟩) fun i acc => acc = ((l.map f).take i).map .bl := by
  refine ⟨rfl, fun i d acc hd hacc hl => ?_⟩
  rw [List.getElem?_map] at hd
  cases e : l[i]? with
  | none => rw [e] at hd; cases hd
  | some c =>
    rw [e] at hd
    cases hd
    refine ⟨[(j, .str ⟨#[c]⟩)], ha c, fun p hp => by rw [List.mem_singleton] at hp; rw [hp]; exact hj, fun Y bY => ts_nil ?_⟩
    rw [if_pos rfl]
    intro Z bZ
    refine (he c Z bZ).imp fun y hy => ?_
    rw [hy, hacc, List.take_add_one, List.getElem?_map, e, List.map_append]
    rfl
/-! ### f-strings -/
def EJ (X : Cx) (R : Reg) (G : List Sl) (es : List Expr) (acc : Str) (P : Str → Prop) : Prop := ∀ σ F H (Q : Str → Hp → Prop), Ty X.K R G σ F H → (∀ out F' H', Ext R F H F' H' → P out → Q out H') → tJs (es.map (tOf X)) acc σ H Q
end
end VS
set_option Elab.async false
set_option linter.all false
set_option maxRecDepth 100000
set_option maxHeartbeats 2000000
/-! enumerate over lists, tuples and texts, from a count on. -/
namespace VS
open PySem PySem.Spec L2 PyProof.Rows
section
variable {prog : Program} {w : World} {A : Around} {E : Value → Shared → Prop} {s : Shared}
end
/-- pairs of a count and an item -/
def ItE (k0 : Int) (xs : List V) (Src : Hp → Prop) : It :=
  ⟨fun i H => i < xs.length ∧ Src H, fun i H v H' => ∃ T x, v = .ref T ∧ H T = none ∧ H' = upd H T (.tup [.int (k0 + (i : Nat)), x]) ∧ xs[i]? = some x, fun i H => xs.length ≤ i ∧ Src H⟩
section
variable {X : Cx} {R : Reg} {G : List Sl} {pos : Pos}
def enumD (k0 : Int) (ds : List Dt) : List Dt := ds.mapIdx fun i d => .tup [.int (k0 + (i : Nat)), d]
/-- what is walked, as data -/
def WkD : Dt → Option (List Dt)
  | .lst ds => some ds
  | .tup ds => some ds
  | .str z => some (z.cps.toList.map fun c => .str ⟨#[c]⟩)
  | _ => none
end
end VS
set_option Elab.async false
set_option linter.all false
namespace VS
open PySem PySem.Spec L2
theorem starts_pre {l p : List Nat} : Txt.startswith (SX.S l) (SX.S p) = decide (l.take p.length = p) := by
  unfold Txt.startswith
  rw [StrLaws.subAt_eq, List.drop_zero, SX.S_len, SX.S_len]
  show (decide (0 + p.length ≤ l.length) && (l.take p.length == p)) = _
  by_cases h : l.take p.length = p
  · have hl : p.length ≤ l.length := by
      have := congrArg List.length h
      rw [List.length_take] at this
      omega
    rw [decide_eq_true h, decide_eq_true (by omega), h]
    simp
  · rw [decide_eq_false h]
    have : (l.take p.length == p) = false := by
      cases hb : l.take p.length == p
      · rfl
      · exact absurd (eq_of_beq hb) h
    rw [this, Bool.and_false]
theorem numL_head {n : Nat} (h : 0 < n) : (TL.numL n).head? ≠ some 48 := by
  induction n using Nat.strongRecOn with
  | _ n ih =>
    by_cases hn : n < 10
    · rw [TL.numL_lt hn]
      intro e
      have := Option.some.inj e
      omega
    · rw [TL.numL_step (by omega), List.head?_append]
      have hd := ih (n / 10) (by omega) (by omega)
      have hne := TL.numL_ne (n / 10)
      cases e : (TL.numL (n / 10)).head? with
      | none => exact absurd (List.head?_eq_none_iff.mp e) hne
      | some c =>
        rw [e] at hd
        exact hd
end VS
set_option Elab.async false
set_option linter.all false
set_option maxRecDepth 100000
/-! small tactics: sizes of ints, preconditions. -/
namespace VS
open PySem PySem.Spec L2
theorem SzR.one {B : Nat} {r : Int × Int} (h : SzR B r) : r.1.natAbs < 2 ^ B := h.1
end VS
set_option Elab.async false
set_option linter.all false
set_option maxRecDepth 100000
/-! plain: words and their shares. -/
namespace VS
open PySem PySem.Spec L2
def ph_take : Ph := fun ds q _ => ∃ n : Int, ds = [.int n] ∧ (0 < n ∧ n.natAbs.log2 < 9000) ∧ ∀ v : Int, 0 ≤ v → v < n → q (.int v)
theorem u_take {n : Int} {q : Dt → Prop} {x : XD} (h : 0 < n ∧ n.natAbs.log2 < 9000) (p : ∀ v : Int, 0 ≤ v → v < n → q (.int v)) : ph_take [.int n] q x := ⟨n, rfl, h, p⟩
/-! compare -/
def cmpR (a b : Int × Int) : Int := if a.1 * b.2 - b.1 * a.2 = 0 then 0 else if 0 < a.1 * b.2 - b.1 * a.2 then 1 else -1
def ph_compare : Ph := fun ds q _ => ∃ (a b : Int × Int) (B : Nat), ds = [ratD a, ratD b] ∧ (SzR B a ∧ SzR B b ∧ B ≤ 100000) ∧ q (.int (cmpR a b))
/-! is_share -/
def isShare (n d : Int) : Bool := decide (1 ≤ d) && ((decide (0 ≤ n) && decide (n ≤ d)) && decide ((Int.gcd n d : Int) = 1))
def ph_is_share : Ph := fun ds q _ => ∃ n d, ds = [.tup [.int n, .int d]] ∧ q (.bl (isShare n d))
theorem u_is_share {n d : Int} {q : Dt → Prop} {x : XD} (_ : True) (p : q (.bl (isShare n d))) : ph_is_share [.tup [.int n, .int d]] q x := ⟨n, d, rfl, p⟩
/-! _law_less -/
def lessR (a b : Int × Int) : Bool := decide (a.1 * b.2 < b.1 * a.2)
def ph__law_less : Ph := fun ds q _ => ∃ (a b : Int × Int) (B : Nat), ds = [ratD a, ratD b] ∧ (SzR B a ∧ SzR B b ∧ B ≤ 100000) ∧ q (.bl (lessR a b))
/-! _law_share -/
def ph__law_share : Ph := fun ds q _ => ∃ m : Int, ds = [.int m] ∧ (0 < m ∧ m ≤ 10 ^ 31) ∧ ∀ r : Int × Int, IsR r → SzR 110 r → 0 ≤ r.1 → r.1 ≤ r.2 → r.2 ≤ m → q (ratD r)
/-! read_number -/
def dg : List Nat := [48, 49, 50, 51, 52, 53, 54, 55, 56, 57]
def rdNum (l : List Nat) (most : Int) : Int := if l = [] ∨ most < l.length ∨ (∃ c ∈ l, c ∉ dg) then -1 else if l.head? = some 48 ∧ 1 < l.length then -1 else ((NumText.digitsVal l : Nat) : Int)
def ph_read_number : Ph := fun ds q _ => ∃ (l : List Nat) (most : Int), ds = [.str (SX.S l), .int most] ∧ (l.length ≤ 90000 ∧ most ≤ 600) ∧ q (.int (rdNum l most))
theorem u_read_number {l : List Nat} {most : Int} {q : Dt → Prop} {x : XD} (h : l.length ≤ 90000 ∧ most ≤ 600) (p : q (.int (rdNum l most))) : ph_read_number [.str (SX.S l), .int most] q x := ⟨l, most, rfl, h, p⟩
/-! read_share -/
def okSh (n d : Int) : Bool := isShare n d && (!decide (n = 0) && !decide (n = d))
/-- the share that a text tells -/
def rdShare (l : List Nat) : Option (Int × Int) := match TL.par [47] [] l with
  | some (p, q) => if okSh (rdNum p 30) (rdNum q 30) = true then some (rdNum p 30, rdNum q 30) else none
  | none => none
def shD : Option (Int × Int) → Dt
  | some r => ratD r
  | none => .non
theorem par_len0 : ∀ (l acc : List Nat) {p q : List Nat}, TL.par [47] acc l = some (p, q) → p.length ≤ acc.length + l.length ∧ q.length ≤ l.length
  | [], acc, p, q, h => by cases h
  | c :: r, acc, p, q, h => by
    unfold TL.par at h
    split at h
    · cases h
      exact ⟨by omega, by simp⟩
    · have := par_len0 r (acc ++ [c]) h
      simp only [List.length_append, List.length_cons, List.length_nil] at this ⊢
      omega
theorem par_len {l p q : List Nat} (h : TL.par [47] [] l = some (p, q)) : p.length ≤ l.length ∧ q.length ≤ l.length := by
  have := par_len0 l [] h
  simpa using this
def ph_read_share : Ph := fun ds q _ => ∃ l : List Nat, ds = [.str (SX.S l)] ∧ l.length ≤ 90000 ∧ q (shD (rdShare l))
theorem u_read_share {l : List Nat} {q : Dt → Prop} {x : XD} (h : l.length ≤ 90000) (p : q (shD (rdShare l))) : ph_read_share [.str (SX.S l)] q x := ⟨l, rfl, h, p⟩
/-! read_word -/
def restL (k : Str) (l : List Nat) : List Nat := (cutS (SX.S l) (some ((k.length : Int) + 1)) none).cps.toList
def tryK (k : Str) (l : List Nat) : Option (Int × Int) := if Txt.startswith (SX.S l) (k ++ Str.ofString " ") = true then rdShare (restL k l) else none
def rdWord (l : List Nat) : Option (Str × Option (Int × Int)) := if SX.S l = Str.ofString "no word" then some (Str.ofString "no word", none) else match tryK "at least" l with
  | some r => some (Str.ofString "at least", some r)
  | none => match tryK "below" l with
    | some r => some (Str.ofString "below", some r)
    | none => none
def wdD (w : Str × Option (Int × Int)) : Dt := .tup [.str w.1, shD w.2]
theorem rdNum_num {n : Nat} (h0 : 0 < n) (h : n < 10 ^ 30) : rdNum (TL.numL n) 30 = (n : Int) := by
  unfold rdNum
  have hl := TL.numL_len (k := 30) (by decide) h
  rw [if_neg, if_neg, TL.numL_val]
  · rintro ⟨h1, _⟩
    exact numL_head h0 h1
  · rintro (h1 | h1 | ⟨c, hc, hd⟩)
    · exact TL.numL_ne n h1
    · omega
    · have := TL.numL_digits n c hc
      apply hd
      unfold dg
      simp only [List.mem_cons, List.not_mem_nil, or_false]
      omega
theorem rdShare_num {n d : Nat} (hn : 0 < n) (hnd : n < d) (hd : d < 10 ^ 30) (hg : Nat.gcd n d = 1) : rdShare (TL.numL n ++ 47 :: TL.numL d) = some ((n : Int), (d : Int)) := by
  unfold rdShare
  have e : TL.par [47] [] (TL.numL n ++ 47 :: TL.numL d) = some (TL.numL n, TL.numL d) := SX.par_head (sep := []) (TL.numL d) (TL.numL_free (by omega))
  rw [e]
  dsimp only
  rw [rdNum_num hn (by omega), rdNum_num (by omega) hd, if_pos]
  unfold okSh isShare
  have hg2 : Int.gcd (n : Int) (d : Int) = 1 := hg
  rw [hg2, decide_eq_true (show (1 : Int) ≤ (d : Int) by omega), decide_eq_true (show (0 : Int) ≤ (n : Int) by omega), decide_eq_true (show (n : Int) ≤ (d : Int) by omega), decide_eq_false (show ¬ (n : Int) = 0 by omega), decide_eq_false (show ¬ (n : Int) = (d : Int) by omega)]
  rfl
theorem rest_app (k : Str) (r : List Nat) : restL k (k.cps.toList ++ 32 :: r) = r := by
  unfold restL
  rw [C8.cutS_slice, SX.slice_from (by omega)]
  show (k.cps.toList ++ 32 :: r).drop ((k.length : Int) + 1).toNat = r
  have e : ((k.length : Int) + 1).toNat = k.cps.toList.length + 1 := by rw [Array.length_toList]; show _ = k.length + 1; omega
  rw [e, List.drop_append]
  simp
theorem tryK_app (k : Str) (r : List Nat) : tryK k (k.cps.toList ++ 32 :: r) = rdShare r := by
  unfold tryK
  have e : k ++ Str.ofString " " = SX.S (k.cps.toList ++ [32]) := by
    have := SX.S_cat k.cps.toList [32]
    rw [SX.S_tl] at this
    exact this
  rw [e, starts_pre, if_pos, rest_app]
  refine decide_eq_true ?_
  rw [show k.cps.toList ++ 32 :: r = (k.cps.toList ++ [32]) ++ r by simp, List.take_left]
def ph_read_word (C : Addr) : Ph := fun ds q x => ∃ l : List Nat, ds = [.str (SX.S l)] ∧ l.length ≤ 90000 ∧ (∀ w, rdWord l = some w → q (wdD w)) ∧ (rdWord l = none → x C ["word"] [.str (SX.S l)])
/-! is_wrong -/
def wrongW (w : Str × Option (Int × Int)) (s : Int × Int) : Bool := match w.2 with
  | none => false
  | some a => if w.1 = Str.ofString "at least" then decide (cmpR s a < 0) else decide (0 ≤ cmpR s a)
def ph_is_wrong : Ph := fun ds q _ => ∃ (l : List Nat) (w : Str × Option (Int × Int)) (s : Int × Int) (B : Nat), ds = [.str (SX.S l), ratD s] ∧ (l.length ≤ 90000 ∧ rdWord l = some w ∧ SzR B s ∧ (∀ a, w.2 = some a → SzR B a) ∧ B ≤ 100000) ∧ q (.bl (wrongW w s))
/-! words written -/
theorem num_S (n : Nat) : Str.ofString (toString (n : Int)) = SX.S (TL.numL n) := by
  have := SX.S_tl (Str.ofString (toString (n : Int)))
  rw [← this]
  exact congrArg SX.S (TL.tl_num n)
theorem len_num {n : Nat} (h : n < 10 ^ 32) : (TL.numL n).length ≤ 32 := TL.numL_len (k := 32) (by decide) h
theorem rdWord_kat (r : List Nat) : rdWord ((Str.ofString "at least").cps.toList ++ 32 :: r) = (rdShare r).map fun s => (Str.ofString "at least", some s) := by
  unfold rdWord
  have e1 : tryK "below" ((Str.ofString "at least").cps.toList ++ 32 :: r) = none := by
    unfold tryK
    rw [show ("below" : Str) ++ Str.ofString " " = SX.S (Str.ofString "below ").cps.toList by decide, starts_pre, if_neg]
    rw [decide_eq_true_eq]
    intro h
    cases h
  rw [if_neg, tryK_app, e1]
  · cases rdShare r <;> rfl
  intro h
  have := SX.S_inj (b := (Str.ofString "no word").cps.toList) h
  cases this
theorem rdWord_kbe (r : List Nat) : rdWord ((Str.ofString "below").cps.toList ++ 32 :: r) = (rdShare r).map fun s => (Str.ofString "below", some s) := by
  unfold rdWord
  have e1 : tryK "at least" ((Str.ofString "below").cps.toList ++ 32 :: r) = none := by
    unfold tryK
    rw [show ("at least" : Str) ++ Str.ofString " " = SX.S (Str.ofString "at least ").cps.toList by decide, starts_pre, if_neg]
    rw [decide_eq_true_eq]
    intro h
    cases h
  rw [if_neg, e1, tryK_app]
  · cases rdShare r <;> rfl
  intro h
  have := SX.S_inj (b := (Str.ofString "no word").cps.toList) h
  cases this
/-- the two kinds of words -/
def IsKind (k : Str) : Prop := k = Str.ofString "at least" ∨ k = Str.ofString "below"
def wordL (k : Str) (n d : Nat) : List Nat := k.cps.toList ++ 32 :: (TL.numL n ++ 47 :: TL.numL d)
theorem rdWord_k {k : Str} (hk : IsKind k) (n d : Nat) : rdWord (wordL k n d) = (rdShare (TL.numL n ++ 47 :: TL.numL d)).map fun s => (k, some s) := by
  rcases hk with rfl | rfl
  · exact rdWord_kat _
  · exact rdWord_kbe _
theorem wordL_S (k : Str) (n d : Nat) : SX.S (wordL k n d) = k ++ Str.ofString " " ++ Str.ofString (toString (n : Int)) ++ Str.ofString "/" ++ Str.ofString (toString (d : Int)) := by
  unfold wordL
  have ek : k = SX.S k.cps.toList := (SX.S_tl k).symm
  rw [num_S, num_S, show Str.ofString "/" = SX.S [47] by decide, show Str.ofString " " = SX.S [32] by decide]
  conv => rhs; rw [ek]
  rw [SX.S_cat, SX.S_cat, SX.S_cat, SX.S_cat]
  simp
theorem IsKind.len {k : Str} (h : IsKind k) : k.length ≤ 8 := by rcases h with rfl | rfl <;> decide
theorem wordL_len {k : Str} (hk : IsKind k) {n d : Nat} (hn : n < 10 ^ 32) (hd : d < 10 ^ 32) : (wordL k n d).length ≤ 90 := by
  unfold wordL
  have h1 := len_num hn
  have h2 := len_num hd
  have h3 := hk.len
  have h4 : k.cps.toList.length = k.length := Array.length_toList
  simp only [List.length_append, List.length_cons]
  omega
theorem num_len {n : Nat} (h : n < 10 ^ 32) : (Str.ofString (toString (n : Int))).length ≤ 32 := by rw [num_S, SX.S_len]; exact len_num h
theorem num_log {n : Nat} (h : n < 10 ^ 32) : (n : Int).natAbs.log2 < 1920 := Nat.lt_of_lt_of_le (PySem.Flt.log2_lt_of (k := 120) (by decide) (show n < 2 ^ 120 by omega)) (by decide)
def ph_made_word (C : Addr) : Ph := fun ds q x => ∃ (k : Str) (n d : Nat), ds = [.str k, ratD ((n : Int), (d : Int))] ∧ (IsKind k ∧ n < 10 ^ 32 ∧ d < 10 ^ 32) ∧ (rdShare (TL.numL n ++ 47 :: TL.numL d) ≠ none → q (.str (SX.S (wordL k n d)))) ∧ (rdShare (TL.numL n ++ 47 :: TL.numL d) = none → x C ["word"] [.str (SX.S (wordL k n d))])
abbrev kAt : Str := Str.ofString "at least"
abbrev kBe : Str := Str.ofString "below"
def ph_made_k (k : Str) (C : Addr) : Ph := fun ds q x => ph_made_word C (.str k :: ds) q x
theorem IsKind.ok {k : Str} (h : IsKind k) : PyData.strOk k = true := by rcases h with rfl | rfl <;> decide +kernel
end VS
set_option Elab.async false
set_option linter.all false
set_option maxRecDepth 100000
/-! own classes: instances as data. -/
namespace VS
open PySem PySem.Spec L2
def fldO (f : Str) : List Str → List Dt → Option Dt
  | n :: ns, x :: xs => if n == f then some x else fldO f ns xs
  | _, _ => none
def putO (f : Str) (d : Dt) : List Str → List Dt → List Str × List Dt
  | n :: ns, x :: xs => if n == f then (n :: ns, d :: xs) else (n :: (putO f d ns xs).1, x :: (putO f d ns xs).2)
  | _, _ => ([f], [d])
section
variable {K : PySem.W.Frag} {F : Hp}
theorem fld_get {f : Str} : ∀ {ns : List Str} {xs : List Dt} {vs : List V} {d : Dt}, RpL K F xs vs → ns.length = vs.length → fldO f ns xs = some d → ∃ v, (ns.zip vs).lookup f = some v ∧ Rp K F d v
  | [], _, vs, d, r, hl, h => by cases h
  | n :: ns, [], vs, d, r, hl, h => by cases h
  | n :: ns, x :: xs, vs, d, r, hl, h => by
    obtain ⟨v, t, rfl, r1, r2⟩ := r.of_cons
    unfold fldO at h
    by_cases e : (n == f) = true
    · rw [if_pos e] at h
      cases h
      have e' : (f == n) = true := by rw [beq_iff_eq] at e ⊢; exact e.symm
      exact ⟨v, by simp [List.zip_cons_cons, List.lookup, e'], r1⟩
    · rw [if_neg e] at h
      obtain ⟨v', h1, h2⟩ := fld_get (ns := ns) (xs := xs) r2 (by simpa using hl) h
      have e' : (f == n) = false := by rw [Bool.eq_false_iff]; intro z; apply e; rw [beq_iff_eq] at z ⊢; exact z.symm
      exact ⟨v', by simp [List.zip_cons_cons, List.lookup, e', h1], h2⟩
theorem fld_none {f : Str} : ∀ {ns : List Str} {vs : List V}, (ns.any fun n => n == f) = false → (ns.zip vs).lookup f = none
  | [], _, _ => by simp
  | n :: ns, [], _ => by simp
  | n :: ns, v :: vs, h => by
    simp only [List.any_cons, Bool.or_eq_false_iff] at h
    have e' : (f == n) = false := by rw [Bool.eq_false_iff]; intro z; have := h.1; rw [Bool.eq_false_iff] at this; apply this; rw [beq_iff_eq] at z ⊢; exact z.symm
    simp [List.zip_cons_cons, List.lookup, e', fld_none h.2]
theorem put_zip {f : Str} {y : V} {d : Dt} : ∀ {ns : List Str} {xs : List Dt} {vs : List V}, RpL K F xs vs → ns.length = vs.length → Rp K F d y → ∃ vs', putF f y (ns.zip vs) = (putO f d ns xs).1.zip vs' ∧ (putO f d ns xs).1.length = vs'.length ∧ RpL K F (putO f d ns xs).2 vs' ∧ vs'.length ≤ vs.length + 1
  | [], xs, vs, r, hl, ry => by
    have e : vs = [] := List.length_eq_zero_iff.mp (by simpa using hl.symm)
    subst e
    refine ⟨[y], ?_, ?_, ?_, by simp⟩
    · cases xs <;> rfl
    · cases xs <;> rfl
    · cases xs <;> exact .cons ry .nil
  | n :: ns, xs, vs, r, hl, ry => by
    cases xs with
    | nil => have e := r.of_nil; subst e; simp at hl
    | cons x xs =>
      obtain ⟨v, t, rfl, r1, r2⟩ := r.of_cons
      by_cases e : (n == f) = true
      · refine ⟨y :: t, ?_, ?_, ?_, by simp⟩
        · unfold putO
          rw [if_pos e]
          have e' := beq_iff_eq.mp e
          subst e'
          simp [List.zip_cons_cons, putF]
        · unfold putO; rw [if_pos e]; simpa using hl
        · unfold putO; rw [if_pos e]; exact .cons ry r2
      · obtain ⟨vs', h1, h2, h3, h4⟩ := put_zip (f := f) (y := y) (d := d) (ns := ns) (xs := xs) (vs := t) r2 (by simpa using hl) ry
        refine ⟨v :: vs', ?_, ?_, ?_, by simp; omega⟩
        · unfold putO
          rw [if_neg e]
          have e' : n ≠ f := fun z => e (beq_iff_eq.mpr z)
          simp [List.zip_cons_cons, putF, h1, e']
        · unfold putO; rw [if_neg e]; simp [h2]
        · unfold putO; rw [if_neg e]; exact .cons r1 h3
end
section
variable {X : Cx} {R : Reg} {G : List Sl} {pos : Pos} {k : Kt}
/-- e.f -/
theorem e_fld {e : Expr} {f : Str} {P : Dt → Prop} (h : E X R G e fun d => ∃ C ns xs r, d = .obj C ns xs ∧ Cls X.K C ∧ NoAttr X.K C f ∧ fldO f ns xs = some r ∧ P r) (hb : attributeBase e f X.env (eval e X.env) = eval e X.env := by rfl) : E X R G (.Attribute e f pos) P := fun σ F H Q ty c =>
  tOf.of (pe_fld pe_w hb) (h σ F H _ ty fun v F1 H1 d ex r ⟨C, ns, xs, r', ed, cl, na, hf, p⟩ => by
    subst ed
    obtain ⟨a, dx, vs, rfl, h1, hl, rl⟩ := rp_obj.mp r
    obtain ⟨v, h2, rv⟩ := fld_get rl hl hf
    exact ⟨a, C, dx, _, v, rfl, ex.wf.fh _ _ h1, cl, na, h2, c v F1 H1 r' ex rv p⟩)
/-- o.f = e, o one's own object -/
theorem s_fldO (i : Nat) {x : Str} {f : Str} {e : Expr} {p pos' : Pos} {C a0 : Addr} {ns : List Str} {xs : List Dt} (hg : G[i]? = some (.ow (.at_ a0 (.obj C ns xs)))) (hN : X.N[i]? = some x) (hv : Vis X.env.scope x) (cl : Cls X.K C) (na : NoAttr X.K C f) (hn : ns.length < 900)
    (h : E X R G e fun d => k.nx (G.set i (.ow (.at_ a0 (.obj C (putO f d ns xs).1 (putO f d ns xs).2)))))
    (hd : (x == ("__debug__" : Str)) = false := by decide) (hcd : (x == ("__classdict__" : Str)) = false := by decide) (hs : swapsWith e (some (.Attribute (.Name x p) f pos')) pos.line X.env = pure false := by rfl) : S1 X R (.Assign [.Attribute (.Name x p) f pos'] e pos) G k := fun F0 H0 σ F H D ty b c =>
  s1Of.of (ps_fld (pe_var hN hv hd hcd) pe_w hs) (h σ F H _ ty fun y F1 H1 d ex r q => by
    have ty1 := ty.ext ex
    obtain ⟨o, ho, fo, nM, ea, dx, vs, h1, hl, rl⟩ := ty1.own hg
    refine ⟨.ref o, by rw [ho], o, C, dx, _, rfl, h1, cl, na, by rw [List.length_zip]; omega, ?_⟩
    obtain ⟨vs', e1, e2, e3, _⟩ := put_zip (f := f) (y := y) (d := d) rl hl r
    have ty2 := ty1.mut (d' := .at_ a0 (.obj C (putO f d ns xs).1 (putO f d ns xs).2)) (u := .ins C dx (putF f y (ns.zip vs))) hg ho ⟨ea, dx, vs', by rw [upd_same, e1], e2, e3⟩
    exact c.nx _ _ _ _ q ty2 ((b.step ex).mut ty2 hg ho))
/-- a borrowed thing -/
def lfree : Dt → Bool
  | .lst _ => false
  | .frl _ => false
  | .tup xs => lfreeL xs
  | .dT _ xs => lfreeL xs
  | .dK _ xs => lfreeL xs
  | .obj _ _ xs => lfreeL xs
  | .exv .. => false
  | .at_ .. => false
  | _ => true
where lfreeL : List Dt → Bool
  | [] => true
  | x :: xs => lfree x && lfreeL xs
end
end VS
set_option Elab.async false
set_option linter.all false
set_option maxRecDepth 100000
/-! own classes: making, methods. -/
namespace VS
open PySem PySem.Spec L2
section
variable {P : Program} {w : World} {K : PySem.W.Frag} {mg : Str → Option Value} {base : Heap}
/-- C(..): a class called, by its __init__ -/
theorem mk_fnR {CX : CXT} {C fI : Addr} {k : Nat} {sp : Sp} (M : Mk K C fI) (F : FnR P w K mg base CX k fI sp) (hup : StX.CXUp CX) :
    FnR P w K mg base CX (k + 1) C (fun vs H Q E => ∀ x dx, H x = none → H dx = none → dx ≠ x → sp (.ref x :: vs) (upd (upd H dx (.own x)) x (.ins C dx [])) (fun v H2 => v = .non ∧ Q (.ref x) H2) E) := by
  intro A outer s H us vs Q E hr e0 r h
  have hn0 : H s.heap.objs.size = none := e0.hok.fresh (Nat.le_refl _)
  have hn1 : H (s.heap.objs.size + 1) = none := e0.hok.fresh (Nat.le_succ _)
  have nn : s.heap.objs.size ≠ s.heap.objs.size + 1 := by omega
  have hq := h (s.heap.objs.size + 1) s.heap.objs.size hn1 hn0 nn
  have KX : K.In s.heap := e0.mod.kin.keeps fun b o e => (e0.bs b o e).1
  have sz1 : (s.heap.push PySem.W.emptyDict).objs.size = s.heap.objs.size + 1 := Heap.size_push _ _
  have g1 : (s.heap.push PySem.W.emptyDict).get? s.heap.objs.size = some PySem.W.emptyDict := Heap.get?_push_size s.heap rfl
  have g2 : ((s.heap.push PySem.W.emptyDict).push (PySem.W.instObj C s.heap.objs.size)).get? (s.heap.objs.size + 1) = some (PySem.W.instObj C s.heap.objs.size) := by
    rw [← sz1]
    exact Heap.get?_push_size _ rfl
  have n3 : (s.heap.push PySem.W.emptyDict).Ns s.heap.objs.size (fun _ => none) := ⟨_, #[], _, g1, rfl, (fun e he => absurd he (by simp)), fun _ => rfl⟩
  have e1 := StX.env0_laid (o := PySem.W.emptyDict) (u := .own (s.heap.objs.size + 1)) e0 ⟨_, g1⟩
  have hn2 : (upd H s.heap.objs.size (.own (s.heap.objs.size + 1))) (s.heap.push PySem.W.emptyDict).objs.size = none := by
    rw [sz1, upd_ne (Ne.symm nn)]
    exact hn1
  have e2 := StX.env0_laid (s := { s with heap := s.heap.push PySem.W.emptyDict }) (o := PySem.W.instObj C s.heap.objs.size) (u := .ins C s.heap.objs.size []) e1 (by
    show ObjOk P w (upd _ (s.heap.push PySem.W.emptyDict).objs.size _) _ (s.heap.push PySem.W.emptyDict).objs.size _
    rw [sz1]
    exact ⟨by rw [upd_ne nn, upd_same], Nat.zero_le _, nn, g2, fun _ => none, (Heap.Ns1.of_empty n3).at fun o q => Heap.get?_push_of_some _ q, fun _ => True.intro, fun y hy => absurd rfl hy⟩)
  have u1 := StX.un_laid (fs := frs outer) (s := s) (o := PySem.W.emptyDict) (u := .own (s.heap.objs.size + 1)) hn0
  have u2 := StX.un_laid (fs := frs outer) (s := { s with heap := s.heap.push PySem.W.emptyDict }) (o := PySem.W.instObj C s.heap.objs.size) (u := .ins C s.heap.objs.size []) hn2
  have e2' : Env0 P w K mg base A outer { s with heap := (s.heap.push PySem.W.emptyDict).push (PySem.W.instObj C s.heap.objs.size) } (upd (upd H s.heap.objs.size (.own (s.heap.objs.size + 1))) (s.heap.objs.size + 1) (.ins C s.heap.objs.size [])) := by
    have := e2
    simp only [sz1] at this
    exact this
  have u3 : Un (frs outer) [] H (upd (upd H s.heap.objs.size (.own (s.heap.objs.size + 1))) (s.heap.objs.size + 1) (.ins C s.heap.objs.size [])) s.heap ((s.heap.push PySem.W.emptyDict).push (PySem.W.instObj C s.heap.objs.size)) := by
    have := u1.trans u2
    simp only [sz1] at this
    exact this
  refine make_map (f := fI) KX M.makes M.init (beq_iff_eq.mp M.fn) (codeAny_mono (F _ outer _ _ (Value.ref (s.heap.objs.size + 1) :: us) (V.ref (s.heap.objs.size + 1) :: vs) _ E (hr.make C us []) (e2'.make C us []) (.cons rfl r) hq) fun r' s' hq' => ?_)
  cases r' with
  | error e => exact hup outer s H { s with heap := (s.heap.push PySem.W.emptyDict).push (PySem.W.instObj C s.heap.objs.size) } _ E e s' u3 (fun b o q => Heap.get?_push_of_some _ (Heap.get?_push_of_some _ q)) rfl hq'
  | ok fl =>
    cases fl with
    | ret u =>
      obtain ⟨v, H', ho, hb, un, hok, rv, ev, q3⟩ := hq'
      subst ev
      exact ⟨rv, ⟨V.ref (s.heap.objs.size + 1), H', ho, hb, u3.trans un, hok, rfl, q3⟩⟩
    | next => exact False.elim hq'
    | brk => exact False.elim hq'
    | cont => exact False.elim hq'
/-- the promise of an __init__ -/
def spIni (K : PySem.W.Frag) (C : Addr) (m : Nat) (φ : Ph) : Sp := fun vs H Q E => vs.length = m + 1 ∧ ∃ (x dx : Addr) (args : List V) (F0 H0 F : Hp) (ds : List Dt) (q : Dt → Prop) (xd : XD), vs = .ref x :: args ∧ Same F0 H0 ∧ Ext .nil F0 H0 F H ∧ H0 x = none ∧ F x = none ∧ H x = some (.ins C dx []) ∧ RpL K F ds args ∧ φ ds q xd ∧
  (∀ F' H' d, Ext .nil F0 H0 F' H' → Rp K F' d (.ref x) → q d → Q .non H') ∧ XOk K .nil F0 H0 xd E
def stI (N : List Str) (x C : Addr) (ds : List Dt) : List Sl := .ow (.at_ x (.obj C [] [])) :: (ds.map .sh ++ List.replicate (N.length - (ds.length + 1)) .no)
end
section
variable {X : Cx} {R : Reg} {G : List Sl} {pos : Pos} {k : Kt}
theorem spD_of {K : PySem.W.Frag} {φ : Ph} {n : Nat} {F H : Hp} {ds : List Dt} {vs : List V} {P : Dt → Prop} {Q : VK} {E : XK} (wf : Wf R F H) (r : RpL K F ds vs) (hl : ds.length = n) (hφ : φ ds P fun _ _ _ => False) (c : Ct K R F H P Q) : spD K n φ vs H Q E :=
  ⟨by rw [← r.length, hl], F, ds, P, fun _ _ _ => False, wf.fh, r, hφ, fun v F2 H2 d ex2 r2 p => c v F2 H2 d (Ext.of_nil wf ex2) r2 p, ⟨fun _ _ _ _ _ _ _ z => z.elim, fun _ _ _ z => z.elim⟩⟩
/-- a method of a class -/
structure FnM (P : Program) (w : World) (K : PySem.W.Frag) (mg : Str → Option Value) (base : Heap) (k : Nat) (C : Addr) (m : Str) (ps : List Str) (dvs : List V) (sp : Sp) : Prop where
  ex : ∃ f fd ds, Meth K C m f ∧ Binds K fd ps ds ∧ Vals dvs ds ∧ FnOk P w K mg base (L2N.CX P w) k f fd ps sp
theorem FnM.mono {P : Program} {w : World} {K : PySem.W.Frag} {mg : Str → Option Value} {base : Heap} {j k : Nat} {C : Addr} {m : Str} {ps : List Str} {dvs : List V} {sp : Sp} (F : FnM P w K mg base j C m ps dvs sp) (h : j ≤ k) : FnM P w K mg base k C m ps dvs sp := by
  obtain ⟨f, fd, ds, a, b, c, d⟩ := F.ex
  exact ⟨f, fd, ds, a, b, c, d.mono h⟩
/-- o.m(e, ..) -/
theorem e_meth {C : Addr} {m : Str} {ps : List Str} {dvs : List V} {dds : List Dt} {φ : Ph} {n j : Nat} {o e : Expr} {es : List Expr} {apos : Pos} {pl : Sem Bool} {P : Dt → Prop} (cl : Cls X.K C) (F : FnM X.prog X.w X.K X.mg X.base j C m ps dvs (spD X.K n φ)) (hr : Room j X.A) (hd : ∀ F, RpL X.K F dds dvs)
    (h : E X R G o fun d => ∃ ns xs, d = .obj C ns xs ∧ (ns.any fun z => z == m) = false ∧ EA X R G (e :: es) fun ds => (d :: (ds ++ dds)).length = n ∧ φ (d :: (ds ++ dds)) P fun _ _ _ => False)
    (hst : starEach (e :: es) X.env = (false, eval e X.env) :: starEach es X.env := by rfl) (hpl : (backTo pos (starEach es X.env)).any (·.1) = false := by rfl)
    (ht : eval (.Call (.Attribute o m apos) (e :: es) [] pos) X.env = (do
      let ov ← eval o X.env
      standAt apos.atName
      let (f, first) ← holding [ov] (getMethod ov m pl)
      callWith pos f first (backTo pos (starEach (e :: es) X.env)) (backToKw pos (keywordEach [] X.env))) := by rfl) : E X R G (.Call (.Attribute o m apos) (e :: es) [] pos) P := fun σ F' H Q ty c => by
  obtain ⟨f, fd, ds, a1, a3, a4, a5⟩ := F.ex
  refine tOf.of (pe_meth (pl := pl) pe_w cl a1 a5 hr a3 a4 passLn pa_w hst hpl ht) (h σ F' H _ ty fun v F1 H1 d ex r ⟨ns, xs, ed, hno, h2⟩ => ?_)
  have r0 := r
  subst ed
  obtain ⟨a, dx, vs, rfl, h1, hl, rl⟩ := rp_obj.mp r
  refine ⟨a, dx, _, rfl, ex.wf.fh _ _ h1, fld_none hno, h2 σ F1 H1 _ (ty.ext ex) fun ws F2 H2 ds' ex2 r2 ⟨hl2, hφ⟩ => ?_⟩
  exact spD_of ex2.wf (.cons (r0.mono ex2.ff) (r2.append (hd F2))) hl2 hφ (c.step (ex.trans ex2))
/-- e.f, a property -/
structure FnP (P : Program) (w : World) (K : PySem.W.Frag) (mg : Str → Option Value) (base : Heap) (k : Nat) (C : Addr) (m : Str) (φ : Ph) : Prop where
  ex : ∃ j p g fd ps, j + 1 ≤ k ∧ PropOf K C m p g ∧ Binds K fd ps [] ∧ FnOk P w K mg base (L2N.CX P w) j g fd ps (spD K 1 φ)
theorem FnP.mono {P : Program} {w : World} {K : PySem.W.Frag} {mg : Str → Option Value} {base : Heap} {j k : Nat} {C : Addr} {m : Str} {φ : Ph} (F : FnP P w K mg base j C m φ) (h : j ≤ k) : FnP P w K mg base k C m φ := by
  obtain ⟨i, p, g, fd, ps, a, b, c, d⟩ := F.ex
  exact ⟨i, p, g, fd, ps, Nat.le_trans a h, b, c, d⟩
/-- C.m(e, ..), a classmethod -/
structure FnCm (P : Program) (w : World) (K : PySem.W.Frag) (mg : Str → Option Value) (base : Heap) (k : Nat) (C : Addr) (m : Str) (n : Nat) (φ : Ph) : Prop where
  ex : ∃ mc p g, ClX.CRead K C mc ∧ ClX.CMet K C mc m p g ∧ FnR P w K mg base (L2N.CX P w) k g (spD K n φ)
theorem FnCm.mono {P : Program} {w : World} {K : PySem.W.Frag} {mg : Str → Option Value} {base : Heap} {j k : Nat} {C : Addr} {m : Str} {n : Nat} {φ : Ph} (F : FnCm P w K mg base j C m n φ) (h : j ≤ k) : FnCm P w K mg base k C m n φ := by
  obtain ⟨mc, p, g, a, b, c⟩ := F.ex
  exact ⟨mc, p, g, a, b, c.mono h⟩
/-! ### special methods -/
theorem FnM.run {C : Addr} {m : Str} {ps : List Str} {φ : Ph} {n j : Nat} (F : FnM X.prog X.w X.K X.mg X.base j C m ps [] (spD X.K n φ)) : ∃ f, Meth X.K C m f ∧
    (∀ {pins : List (Addr × Obj)} {σ : St} {H : Hp} {s : Shared} {Q : VK} {us : List Value} {vs : List V}, Room j X.A → Inv X pins σ H s → Vals vs us → spD X.K n φ vs H Q E0 → wpAny (model X.prog X.w) X.A (call (.ref f) us) (EP X pins σ Q) X.xe s) ∧
    (∀ {pins : List (Addr × Obj)} {σ : St} {H : Hp} {s : Shared} {Q : VK} {us : List Value} {vs : List V} {E' : Value → Shared → Prop}, Room (j + 1) X.A → Inv X pins σ H s → Vals vs us → spD X.K n φ vs H Q E0 → wpAny (model X.prog X.w) X.A.in1 (call (.ref f) us) (EP X pins σ Q) E' s) := by
  obtain ⟨f, fd, ds, a1, a3, a4, a5⟩ := F.ex
  have e : ds = [] := by cases a4; rfl
  subst e
  refine ⟨f, a1, fun hr I r h => run_fn a5 hr a3 .nil passLn I r (by rw [List.append_nil]; exact h), fun {pins σ H s Q us vs E'} hr I r h => ?_⟩
  have hl : (us ++ []).length = ps.length := by rw [List.append_nil, ← r.length]; exact a5.len _ _ _ _ h
  refine wpAny_call (codeAny_mono (a5.run X.A.in1 X.stack s H ⟨us, []⟩ (us ++ []) vs Q E0 hr.in1 I.env0.in1 (a3 s us I.kIn hl) (by rw [List.append_nil]; exact r) h) fun r s' hq => ?_)
  cases r with
  | error er => exact (passLn (X := X.nox) pins σ H s er s' (I.wish _) hq).elim
  | ok fl =>
    cases fl with
    | ret u => exact I.after hq
    | next => exact False.elim hq
    | brk => exact False.elim hq
    | cont => exact False.elim hq
end
end VS
set_option Elab.async false
set_option linter.all false
set_option maxRecDepth 100000
/-! own classes: operators. -/
namespace VS
open PySem PySem.Spec L2
section
open PySem.W (InstAt Looks)
variable {prog : Program} {w : World} {A : Around} {E : Value → Shared → Prop} {s : Shared} {K : PySem.W.Frag} {x C f : Addr} {ox : Obj} {od : Option Obj} {nm : String}
end
section
variable {X : Cx} {R : Reg} {G : List Sl} {pos : Pos} {k : Kt}
/-- where an instance lies -/
theorem inst_at {pins : List (Addr × Obj)} {σ : St} {F H : Hp} {s : Shared} {a C dx : Addr} {fs : List (Str × V)} (I : Inv X pins σ H s) (w : Wf R F H) (h : F a = some (.ins C dx fs)) : ∃ od, PySem.W.InstAt s.heap a (PySem.W.instObj C dx) C (some od) := by
  obtain ⟨mA, O, _⟩ := ins_get I.hok (w.fh _ _ h)
  obtain ⟨od, J, _⟩ := O.look
  exact ⟨od, J⟩
/-- what C and int tell of an operator -/
structure NumC (K : PySem.W.Frag) (C : Addr) (nm : String) : Prop where
  first : PySem.W.selfFirst K C = true
  r : ∃ rc, PySem.W.findIn K (.ref C) (dunderR nm) = some rc ∧ (rc = none ∨ ∃ g : Addr, rc = some (.ref g))
  l : ∃ fo, PySem.W.findIn K (.type "int") (PySem.dunder nm) = some fo
  rr : ∃ ro, PySem.W.findIn K (.type "int") (dunderR nm) = some ro
  sub : PySem.W.subIn K (.type "int") (.ref C) = some false
  sub2 : PySem.W.subIn K (.ref C) (.type "int") = some false
end
end VS
set_option Elab.async false
set_option linter.all false
set_option maxRecDepth 100000
/-! own classes: making; reflected and op= -/
namespace VS
open PySem PySem.Spec L2
section
variable {X : Cx} {R : Reg} {G : List Sl} {pos : Pos} {k : Kt}
/-- int's own method of an operator -/
structure IntOp (nm : String) : Prop where
  ex : ∃ (id fn : String) (f : Int → Int → Sem Fin), fillsNumberSlot (.type "int") nm = pure true ∧ Slot "int" (PySem.dunder nm) id ∧ entryFor table id = some (Builtin.Int.intBinary fn f) ∧ ∀ a b, argsOk id ⟨[a, b], []⟩
/-! ### op= -/
@[irreducible] def ipOf (X : Cx) (op : Operator) : TIp := fun x y H Q => ∀ pins s σ v u, Inv X pins σ H s → RelV x v → RelV y u → wpAny (model X.prog X.w) X.A (inplaceOp op v u) (EP X pins σ Q) X.xe s
def WA (X : Cx) (R : Reg) (op : Operator) (a b : Dt) (P : Dt → Prop) : Prop := ∀ F H x y Q, Wf R F H → Rp X.K F a x → Rp X.K F b y → Ct X.K R F H P Q → ipOf X op x y H Q
/-- C has no op= of its own -/
structure NoInp (K : PySem.W.Frag) (C : Addr) (nm : String) : Prop where
  ex : ∃ cd, PySem.W.clsIn K C = some cd ∧ cd.mro = [.ref C, .type "object"] ∧ PySem.W.findIn K (.ref C) (dunderI nm) = some none ∧ PySem.W.findIn K (.type "object") (dunderI nm) = some none
end
/-! ### making -/
section
variable {P : Program} {w : World} {K : PySem.W.Frag} {mg : Str → Option Value} {base : Heap}
/-- from an __init__'s promise to the class's: given arguments one by one -/
theorem mk_spD {CX : CXT} {C fI : Addr} {k m : Nat} {φ : Ph} (M : Mk K C fI) (F : FnR P w K mg base CX k fI (spIni K C m φ)) (hup : StX.CXUp CX) : FnR P w K mg base CX (k + 1) C (spD K m φ) := by
  refine (mk_fnR M F hup).imp fun vs H Q E hs x dx hx hdx ne => ?_
  obtain ⟨hl, F0, ds, q, xd, sf, r, hφ, hq, hxo⟩ := hs
  have ex1 := (wf_nil sf).own (o := .own x) hdx
  have hx' : (upd H dx (.own x)) x = none := by rw [upd_ne (Ne.symm ne)]; exact hx
  have ex2 := ex1.wf.own (o := .ins C dx []) hx'
  exact ⟨by rw [List.length_cons, hl], x, dx, vs, F0, H, F0, ds, q, xd, rfl, sf, ex1.trans ex2, hx, sf.free hx, upd_same, r, hφ, fun F' H' d ex rd qd => ⟨rfl, hq _ F' H' d ex rd qd⟩, hxo⟩
def spIniS (K : PySem.W.Frag) (C : Addr) (φ : Ph) : Sp := fun vs H Q E => ∃ ws rest, vs = ws ++ rest ∧ ws.length = 1 ∧ rest.length ≤ sizeLine ∧ ∀ p, H p = Option.none → spIni K C 1 φ (ws ++ [V.ref p]) (upd H p (.tup rest)) Q E
theorem raw0 {CX : CXT} {f : Addr} {fd : FuncData} {ps : List Str} {k : Nat} {sp : Sp} (F : FnOk P w K mg base CX k f fd ps sp) (hb : Binds K fd ps []) : FnR P w K mg base CX k f sp := (F.raw hb .nil).imp fun vs H Q E h => by rw [List.append_nil]; exact h
/-- a class called with so many arguments -/
structure FnC (P : Program) (w : World) (K : PySem.W.Frag) (mg : Str → Option Value) (base : Heap) (k : Nat) (x : Str) (n : Nat) (φ : Ph) : Prop where
  ex : ∃ f : Addr, mg x = some (.ref f) ∧ PySem.W.keepIn K (.ref f) = true ∧ FnR P w K mg base (L2N.CX P w) k f (spD K n φ)
theorem FnC.mono {P : Program} {w : World} {K : PySem.W.Frag} {mg : Str → Option Value} {base : Heap} {j k : Nat} {x : Str} {n : Nat} {φ : Ph} (F : FnC P w K mg base j x n φ) (h : j ≤ k) : FnC P w K mg base k x n φ := by
  obtain ⟨f, a, b, c⟩ := F.ex
  exact ⟨f, a, b, c.mono h⟩
/-- a method that is called one unit deeper -/
structure FnI (P : Program) (w : World) (K : PySem.W.Frag) (mg : Str → Option Value) (base : Heap) (k : Nat) (C : Addr) (m : Str) (ps : List Str) (dvs : List V) (sp : Sp) : Prop where
  ex : ∃ j, j + 1 ≤ k ∧ FnM P w K mg base j C m ps dvs sp
theorem FnI.mono {P : Program} {w : World} {K : PySem.W.Frag} {mg : Str → Option Value} {base : Heap} {j k : Nat} {C : Addr} {m : Str} {ps : List Str} {dvs : List V} {sp : Sp} (F : FnI P w K mg base j C m ps dvs sp) (h : j ≤ k) : FnI P w K mg base k C m ps dvs sp := by
  obtain ⟨i, a, b⟩ := F.ex
  exact ⟨i, Nat.le_trans a h, b⟩
end
end VS
set_option Elab.async false
set_option linter.all false
set_option maxRecDepth 100000
/-! own classes: instances called. -/
namespace VS
open PySem PySem.Spec L2
section
variable {M : Model} {A : Around} {E : Value → Shared → Prop} {s : Shared} {env : Env} {pos : Pos} {x C : Addr} {Q : Value → Shared → Prop}
end
section
variable {X : Cx} {R : Reg} {G : List Sl} {pos : Pos} {k : Kt}
end
end VS
set_option Elab.async false
set_option linter.all false
set_option maxRecDepth 100000
/-! the class Poly: what its text tells. -/
namespace VS
open PySem PySem.Spec L2
theorem tyB_ok {K : PySem.W.Frag} {C : Addr} (h : tyB K C = true) (cl : Cls K C) (ns : List Str) (xs : List Dt) : TyD K (.obj C ns xs) (.ref C) := fun F H x s r => by
  obtain ⟨h1, h⟩ := He.ba h
  obtain ⟨h2, h⟩ := He.ba h
  obtain ⟨h3, h4⟩ := He.ba h
  obtain ⟨a, dx, vs, rfl, e, _⟩ := rp_obj.mp r
  exact .base (.ins (s _ _ e) cl (of_decide_eq_true h1) (of_decide_eq_true h2) (of_decide_eq_true h3) (of_decide_eq_true h4))
theorem clsC_ok {K : PySem.W.Frag} {C : Addr} (h : clsC K C = true) : Cls K C := by
  obtain ⟨h1, h⟩ := He.ba h
  obtain ⟨h2, h⟩ := He.ba h
  obtain ⟨h3, h4⟩ := He.ba h
  exact ⟨h1, h2, h3, of_decide_eq_true h4⟩
theorem mkB_ok {K : PySem.W.Frag} {C : Addr} (h : mkB K C = true) : Mk K C (He.ma K C "__init__") := by
  obtain ⟨h1, h⟩ := He.ba h
  obtain ⟨h2, h⟩ := He.ba h
  obtain ⟨h3, h4⟩ := He.ba h
  exact ⟨h1, of_decide_eq_true h2, h3, h4⟩
theorem methB_ok {K : PySem.W.Frag} {C : Addr} {m : Str} (h : methB K C m = true) : Meth K C m (He.ma K C m) := by
  obtain ⟨h1, h⟩ := He.ba h
  obtain ⟨h2, h3⟩ := He.ba h
  exact ⟨of_decide_eq_true h1, h2, h3⟩
/-- the plain types that are no Poly -/
theorem notB_ok {K : PySem.W.Frag} {C : Addr} (h : notB K C = true) {T : String} (hT : T ∈ plainT) : PySem.W.kitOne K (.type T) (.ref C) = some false ∧ PySem.W.notFirst K C (.type T) = true := by
  obtain ⟨h1, h2⟩ := He.ba (List.all_eq_true.mp h T hT)
  exact ⟨of_decide_eq_true h1, h2⟩
structure PolyC (K : PySem.W.Frag) (C : Addr) : Prop where
  cl : Cls K C
  na_coefs : NoAttr K C "coefs"
  ty : ∀ ns xs, TyD K (.obj C ns xs) (.ref C)
  add : NumC K C "add"
  sub : NumC K C "sub"
  mul : NumC K C "mul"
  fdiv : NumC K C "floordiv"
  pow : NumC K C "pow"
  iadd : NoInp K C "add"
  isub : NoInp K C "sub"
  imul : NoInp K C "mul"
  self : PySem.W.kitOne K (.ref C) (.ref C) = some true
  no : ∀ T, T ∈ plainT → PySem.W.kitOne K (.type T) (.ref C) = some false ∧ PySem.W.notFirst K C (.type T) = true
  seq : PySem.W.noSeq K C = true
  call : ∀ f, PySem.W.findIn K (.ref C) "__call__" = some (some (.ref f)) → PySem.W.fnIn K f = true
section
variable {X : Cx} {R : Reg} {G : List Sl} {pos : Pos} {k : Kt}
end
/-! ### names of the operators -/
end VS
set_option Elab.async false
set_option linter.all false
set_option maxRecDepth 100000
/-! operators that may raise; an error without a field; text.split. -/
namespace VS
open PySem PySem.Spec L2
section
variable {X : Cx} {R : Reg} {G : List Sl} {pos : Pos} {k : Kt} {xq : List Sl → XD} {W : WX}
@[irreducible] def opAt (X : Cx) (f : Value → Value → Sem Value) (σ : St) : R2 := fun x y H Q => ∀ pins s v u, Inv X pins σ H s → RelV x v → RelV y u → wpAny (model X.prog X.w) X.A (f v u) (EP X pins σ Q) X.xe s
theorem spD_ofX {F H : Hp} {vs : List V} {ds : List Dt} {n : Nat} {φ : Ph} {P : Dt → Prop} {xd : XD} {Q : VK} {σ : St} (w : Wf R F H) (r : RpL X.K F ds vs) (hl : ds.length = n) (hφ : φ ds P xd) (c : Ct X.K R F H P Q)
    (cx : ∀ F' H' C ns ds d, xd C ns ds → Ext R F H F' H' → XDat X.K R H F' H' ns ds d → W (.ref C) d σ H') : spD X.K n φ vs H Q (WE W σ) :=
  ⟨by rw [← hl]; exact r.length.symm, F, _, P, xd, w.fh, r, hφ, fun v F2 H2 d ex2 r2 p => c v F2 H2 d (Ext.of_nil w ex2) r2 p, ⟨fun C ns ds dx vs F2 H2 hx ex2 e1 e2 e3 e4 => cx F2 H2 C ns ds (some dx) hx (Ext.of_nil w ex2) (.inl ⟨dx, vs, rfl, e4, w.new e4, e1, e2, e3⟩), fun C F2 H2 hx ex2 => cx F2 H2 C [] [] none hx (Ext.of_nil w ex2) (.inr ⟨rfl, rfl, rfl⟩)⟩⟩
/-- an own error class without a field and without __init__ -/
structure Er0 (K : PySem.W.Frag) (mg : Str → Option Value) (x : Str) (C : Addr) : Prop where
  gl : mg x = some (.ref C)
  q : PySem.W.excIn K C [.type "ValueError", .type "Exception", .type "BaseException", .type "object"] "ValueError.__new__" = true
  kp : PySem.W.keepIn K (.ref C) = true
  sub : PySem.W.subIn K (.ref C) (.type "BaseException") = some true
  ty : PySem.W.typeIn K (.ref C) = some (.type "type")
end
end VS
set_option Elab.async false
set_option linter.all false
set_option maxRecDepth 100000
/-! range downwards; a new list of one's own from a list or tuple. -/
namespace VS
open PySem PySem.Spec L2
/-- hi, hi - 1, .. n of them -/
def downD (hi : Int) (n : Nat) : List Dt := (List.range n).map fun i => .int (hi - (i : Nat))
section
variable {X : Cx} {R : Reg} {G : List Sl} {pos : Pos} {k : Kt}
end
end VS
set_option Elab.async false
set_option linter.all false
set_option maxRecDepth 100000
/-! a thing of one's own: given back by a def, lent for a while. -/
namespace VS
open PySem PySem.Spec L2
/-- kinds of things: 0 lists, 1 dicts, 2 objects -/
def isK : Nat → HO → Prop
  | 0, o => ∃ xs, o = .lst xs
  | 1, o => (∃ kvs, o = .dT kvs) ∨ ∃ kvs, o = .dK kvs
  | _, o => ∃ C dx fs, o = .ins C dx fs
mutual
/-- data in which no thing of the kind stands -/
def fre (κ : Nat) : Dt → Bool
  | .tup xs => freL κ xs
  | .lst xs => decide (κ ≠ 0) && freL κ xs
  | .frl xs => decide (κ ≠ 0) && freL κ xs
  | .dT _ xs => decide (κ ≠ 1) && freL κ xs
  | .dK _ xs => decide (κ ≠ 1) && freL κ xs
  | .obj _ _ xs => decide (κ ≤ 1) && freL κ xs
  | .exv _ _ xs _ => freL κ xs
  | .at_ _ d => fre κ d
  | .non => true
  | .bl _ => true
  | .int _ => true
  | .str _ => true
  | .ty _ => true
  | .adr _ => true
  | .key _ => true
def freL (κ : Nat) : List Dt → Bool
  | [] => true
  | x :: xs => fre κ x && freL κ xs
end
section
variable {K : PySem.W.Frag} {F : Hp} {p : Addr} {o : HO} {κ : Nat}
theorem isK_tup {vs : List V} (hk : isK κ o) : o ≠ .tup vs ∧ ∀ z u, o ≠ .frz z u := by
  match κ, hk with
  | 0, ⟨xs, h⟩ => subst h; exact ⟨fun z => (nomatch z), fun _ _ z => (nomatch z)⟩
  | 1, .inl ⟨xs, h⟩ => subst h; exact ⟨fun z => (nomatch z), fun _ _ z => (nomatch z)⟩
  | 1, .inr ⟨xs, h⟩ => subst h; exact ⟨fun z => (nomatch z), fun _ _ z => (nomatch z)⟩
  | n + 2, ⟨C, dx, fs, h⟩ => subst h; exact ⟨fun z => (nomatch z), fun _ _ z => (nomatch z)⟩
theorem isK_lst {vs : List V} (hk : isK κ o) (h : κ ≠ 0) : o ≠ .lst vs := by
  match κ, hk, h with
  | 0, _, h => exact absurd rfl h
  | 1, .inl ⟨xs, h⟩, _ => subst h; exact fun z => (nomatch z)
  | 1, .inr ⟨xs, h⟩, _ => subst h; exact fun z => (nomatch z)
  | n + 2, ⟨C, dx, fs, h⟩, _ => subst h; exact fun z => (nomatch z)
theorem isK_dT {vs : List (List Key × V)} (hk : isK κ o) (h : κ ≠ 1) : o ≠ .dT vs := by
  match κ, hk, h with
  | 0, ⟨xs, h⟩, _ => subst h; exact fun z => (nomatch z)
  | 1, _, h => exact absurd rfl h
  | n + 2, ⟨C, dx, fs, h⟩, _ => subst h; exact fun z => (nomatch z)
theorem isK_dK {vs : List (Key × V)} (hk : isK κ o) (h : κ ≠ 1) : o ≠ .dK vs := by
  match κ, hk, h with
  | 0, ⟨xs, h⟩, _ => subst h; exact fun z => (nomatch z)
  | 1, _, h => exact absurd rfl h
  | n + 2, ⟨C, dx, fs, h⟩, _ => subst h; exact fun z => (nomatch z)
theorem isK_ins {C dx : Addr} {fs : List (Str × V)} (hk : isK κ o) (h : κ ≤ 1) : o ≠ .ins C dx fs := by
  match κ, hk, h with
  | 0, ⟨xs, h⟩, _ => subst h; exact fun z => (nomatch z)
  | 1, .inl ⟨xs, h⟩, _ => subst h; exact fun z => (nomatch z)
  | 1, .inr ⟨xs, h⟩, _ => subst h; exact fun z => (nomatch z)
  | n + 2, _, h => omega
theorem isK_xd {fs : List (Str × V)} (hk : isK κ o) : o ≠ .xd fs := by
  match κ, hk with
  | 0, ⟨xs, h⟩ => subst h; exact fun z => (nomatch z)
  | 1, .inl ⟨xs, h⟩ => subst h; exact fun z => (nomatch z)
  | 1, .inr ⟨xs, h⟩ => subst h; exact fun z => (nomatch z)
  | n + 2, ⟨C, dx, fs', h⟩ => subst h; exact fun z => (nomatch z)
theorem del_at {a : Addr} {u : HO} (hp : F p = some o) (hn : o ≠ u) (h : F a = some u) : del F p a = some u := by
  have e : a ≠ p := fun z => by
    subst z
    rw [hp] at h
    exact hn (Option.some.inj h)
  rw [del_ne e]
  exact h
theorem rd_del {a : Addr} {u : HO} (hp : F p = some o) (hk : isK κ o) (hn : o ≠ u) (h : Rd F a u) : Rd (del F p) a u := by
  rcases h with h | ⟨z, h⟩
  · exact .inl (del_at hp hn h)
  · exact .inr ⟨z, del_at hp ((isK_tup (vs := []) hk).2 _ _) h⟩
theorem sqt_del {a : Addr} {vs : List V} (hp : F p = some o) (hk : isK κ o) (h : SqT K F a vs) : SqT K (del F p) a vs := by
  rcases h with (h | ⟨z, h⟩) | h
  · exact .inl (.inl (del_at hp (isK_tup hk).1 h))
  · exact .inl (.inr ⟨z, del_at hp ((isK_tup (vs := []) hk).2 _ _) h⟩)
  · exact .inr h
theorem sql_del {a : Addr} {vs : List V} (hp : F p = some o) (hk : isK κ o) (hn : κ ≠ 0) (h : SqL K F a vs) : SqL K (del F p) a vs := by
  rcases h with (h | ⟨z, h⟩) | h
  · exact .inl (.inl (del_at hp (isK_lst hk hn) h))
  · exact .inl (.inr ⟨z, del_at hp ((isK_tup (vs := []) hk).2 _ _) h⟩)
  · exact .inr h
mutual
theorem rp_del (hp : F p = some o) (hk : isK κ o) : ∀ {d : Dt} {v : V}, Rp K F d v → fre κ d = true → Rp K (del F p) d v
  | .non, _, h, _ => by simp only [Rp] at h ⊢; exact h
  | .bl _, _, h, _ => by simp only [Rp] at h ⊢; exact h
  | .int _, _, h, _ => by simp only [Rp] at h ⊢; exact h
  | .str _, _, h, _ => by simp only [Rp] at h ⊢; exact h
  | .ty _, _, h, _ => by simp only [Rp] at h ⊢; exact h
  | .adr _, _, h, _ => by simp only [Rp] at h ⊢; exact h
  | .tup xs, _, h, hf => by
    simp only [Rp] at h ⊢
    simp only [fre] at hf
    obtain ⟨a, vs, h1, h2, h3⟩ := h
    exact ⟨a, vs, h1, sqt_del hp hk h2, rpL_del hp hk h3 hf⟩
  | .lst xs, _, h, hf => by
    simp only [Rp] at h ⊢
    simp only [fre, Bool.and_eq_true, decide_eq_true_eq] at hf
    obtain ⟨a, vs, h1, h2, h3⟩ := h
    exact ⟨a, vs, h1, del_at hp (isK_lst hk hf.1) h2, rpL_del hp hk h3 hf.2⟩
  | .frl xs, _, h, hf => by
    simp only [Rp] at h ⊢
    simp only [fre, Bool.and_eq_true, decide_eq_true_eq] at hf
    obtain ⟨a, vs, h1, h2, h3⟩ := h
    exact ⟨a, vs, h1, sql_del hp hk hf.1 h2, rpL_del hp hk h3 hf.2⟩
  | .dT ks xs, _, h, hf => by
    simp only [Rp] at h ⊢
    simp only [fre, Bool.and_eq_true, decide_eq_true_eq] at hf
    obtain ⟨a, vs, h1, h2, h4, h3⟩ := h
    exact ⟨a, vs, h1, rd_del hp hk (isK_dT hk hf.1) h2, h4, rpL_del hp hk h3 hf.2⟩
  | .dK ks xs, _, h, hf => by
    simp only [Rp] at h ⊢
    simp only [fre, Bool.and_eq_true, decide_eq_true_eq] at hf
    obtain ⟨a, vs, h1, h2, h4, h3⟩ := h
    exact ⟨a, vs, h1, rd_del hp hk (isK_dK hk hf.1) h2, h4, rpL_del hp hk h3 hf.2⟩
  | .key ks, _, h, hf => by
    simp only [Rp] at h ⊢
    obtain ⟨a, h1, h2⟩ := h
    exact ⟨a, h1, del_at hp (isK_tup hk).1 h2⟩
  | .obj C ns xs, _, h, hf => by
    simp only [Rp] at h ⊢
    simp only [fre, Bool.and_eq_true, decide_eq_true_eq] at hf
    obtain ⟨a, dx, vs, h1, h2, h4, h3⟩ := h
    exact ⟨a, dx, vs, h1, del_at hp (isK_ins hk hf.1) h2, h4, rpL_del hp hk h3 hf.2⟩
  | .exv a ns xs d, _, h, hf => by
    simp only [Rp] at h ⊢
    simp only [fre] at hf
    refine ⟨h.1, fun dx hd => ?_⟩
    obtain ⟨vs, h1, h2, h3⟩ := h.2 dx hd
    exact ⟨vs, del_at hp (isK_xd hk) h1, h2, rpL_del hp hk h3 hf⟩
  | .at_ a d, _, h, hf => by
    simp only [Rp] at h ⊢
    simp only [fre] at hf
    exact ⟨h.1, rp_del hp hk h.2 hf⟩
theorem rpL_del (hp : F p = some o) (hk : isK κ o) : ∀ {ds : List Dt} {vs : List V}, RpL K F ds vs → freL κ ds = true → RpL K (del F p) ds vs
  | [], _, h, _ => by simp only [RpL] at h ⊢; exact h
  | d :: ds, _, h, hf => by
    simp only [RpL] at h ⊢
    simp only [freL, Bool.and_eq_true] at hf
    obtain ⟨v, r, h1, h2, h3⟩ := h
    exact ⟨v, r, h1, rp_del hp hk h2 hf.1, rpL_del hp hk h3 hf.2⟩
end
end
/-- the kind of one's own thing -/
def kOf : Dt → Nat
  | .lst _ => 0
  | .dT _ _ => 1
  | .dK _ _ => 1
  | .at_ _ (.lst _) => 0
  | .at_ _ (.dT _ _) => 1
  | _ => 2
/-- its parts -/
def freO (κ : Nat) : Dt → Bool
  | .lst xs => freL κ xs
  | .dT _ xs => freL κ xs
  | .dK _ xs => freL κ xs
  | .obj _ _ xs => freL κ xs
  | .at_ _ (.obj _ _ xs) => freL κ xs
  | .at_ _ (.lst xs) => freL κ xs
  | .at_ _ (.dT _ xs) => freL κ xs
  | _ => false
theorem OwO.kd {K : PySem.W.Frag} {F H : Hp} {o : Addr} {d : Dt} (h : OwO K F H o d) : ∃ u, H o = Option.some u ∧ isK (kOf d) u := by
  rcases h.kinds with ⟨xs, rfl⟩ | ⟨ks, xs, rfl⟩ | ⟨ks, xs, rfl⟩ | ⟨C, ns, xs, rfl⟩ | ⟨a, C, ns, xs, rfl⟩ | ⟨a, xs, rfl⟩ | ⟨a, ks, xs, rfl⟩
  · obtain ⟨vs, h, _⟩ := h; exact ⟨_, h, _, rfl⟩
  · obtain ⟨vs, h, _⟩ := h; exact ⟨_, h, .inl ⟨_, rfl⟩⟩
  · obtain ⟨vs, h, _⟩ := h; exact ⟨_, h, .inr ⟨_, rfl⟩⟩
  · obtain ⟨dx, vs, h, _⟩ := h; exact ⟨_, h, _, _, _, rfl⟩
  · obtain ⟨_, dx, vs, h, _⟩ := h; exact ⟨_, h, _, _, _, rfl⟩
  · obtain ⟨_, vs, h, _⟩ := h; exact ⟨_, h, _, rfl⟩
  · obtain ⟨_, vs, h, _⟩ := h; exact ⟨_, h, .inl ⟨_, rfl⟩⟩
theorem OwO.del {K : PySem.W.Frag} {F H : Hp} {o p : Addr} {u : HO} {κ : Nat} {d : Dt} (hp : F p = Option.some u) (hk : isK κ u) (h : OwO K F H o d) (hf : freO κ d = true) : OwO K (del F p) H o d := by
  rcases h.kinds with ⟨xs, rfl⟩ | ⟨ks, xs, rfl⟩ | ⟨ks, xs, rfl⟩ | ⟨C, ns, xs, rfl⟩ | ⟨a, C, ns, xs, rfl⟩ | ⟨a, xs, rfl⟩ | ⟨a, ks, xs, rfl⟩
  · obtain ⟨vs, h, r⟩ := h; exact ⟨vs, h, rpL_del hp hk r hf⟩
  · obtain ⟨vs, h, l, r⟩ := h; exact ⟨vs, h, l, rpL_del hp hk r hf⟩
  · obtain ⟨vs, h, l, r⟩ := h; exact ⟨vs, h, l, rpL_del hp hk r hf⟩
  · obtain ⟨dx, vs, h, l, r⟩ := h; exact ⟨dx, vs, h, l, rpL_del hp hk r hf⟩
  · obtain ⟨e, dx, vs, h, l, r⟩ := h; exact ⟨e, dx, vs, h, l, rpL_del hp hk r hf⟩
  · obtain ⟨e, vs, h, r⟩ := h; exact ⟨e, vs, h, rpL_del hp hk r hf⟩
  · obtain ⟨e, vs, h, l, r⟩ := h; exact ⟨e, vs, h, l, rpL_del hp hk r hf⟩
/-! ### slots, place by place -/
section
variable {K : PySem.W.Frag} {R : Reg} {F H : Hp} {G : List Sl} {σ : St}
theorem sls_of : ∀ {G : List Sl} {σ : St}, G.length = σ.length → (∀ (j : Nat) (g : Sl), G[j]? = some g → ∃ v, σ[j]? = some v ∧ SlOk K R F H g v) → SlsOk K R F H G σ
  | [], [], _, _ => .nil
  | [], _ :: _, h, _ => by simp at h
  | _ :: _, [], h, _ => by simp at h
  | g :: G, v :: σ, h, q => by
    refine .cons ?_ (sls_of (by simpa using h) fun j g' hg => ?_)
    · obtain ⟨v', e, s⟩ := q 0 g rfl
      cases e
      exact s
    · have := q (j + 1) g' (by simpa using hg)
      simpa using this
theorem own_inj : ∀ {G : List Sl} {σ : St}, (owns G σ).Nodup → ∀ {i j : Nat} {d d' : Dt} {o : Addr}, G[i]? = some (.ow d) → σ[i]? = some (some (.ref o)) → G[j]? = some (.ow d') → σ[j]? = some (some (.ref o)) → i = j
  | [], _, _, i, j, d, d', o, h1, _, _, _ => by simp at h1
  | g :: G, [], _, i, j, d, d', o, _, h2, _, _ => by simp at h2
  | g :: G, v :: σ, nd, i, j, d, d', o, h1, h2, h3, h4 => by
    have nd' : (owns G σ).Nodup := by
      cases g with
      | no => simpa [owns] using nd
      | sh d => simpa [owns] using nd
      | ow d =>
        cases v with
        | none => simpa [owns] using nd
        | some x =>
          cases x with
          | ref q => simp only [owns, List.nodup_cons] at nd; exact nd.2
          | _ => simpa [owns] using nd
    have head : ∀ {j : Nat} {d' : Dt}, g = .ow d → v = some (.ref o) → G[j]? = some (.ow d') → σ[j]? = some (some (.ref o)) → False := fun e1 e2 g3 g4 => by
      rw [e1, e2] at nd
      simp only [owns, List.nodup_cons] at nd
      exact nd.1 (mem_owns g3 g4)
    have head' : ∀ {j : Nat} {d1 : Dt}, g = .ow d' → v = some (.ref o) → G[j]? = some (.ow d1) → σ[j]? = some (some (.ref o)) → False := fun e1 e2 g3 g4 => by
      rw [e1, e2] at nd
      simp only [owns, List.nodup_cons] at nd
      exact nd.1 (mem_owns g3 g4)
    cases i with
    | zero =>
      cases j with
      | zero => rfl
      | succ j => exact (head (Option.some.inj h1) (Option.some.inj h2) (by simpa using h3) (by simpa using h4)).elim
    | succ i =>
      cases j with
      | zero => exact (head' (Option.some.inj h3) (Option.some.inj h4) (by simpa using h1) (by simpa using h2)).elim
      | succ j => rw [own_inj nd' (i := i) (j := j) (by simpa using h1) (by simpa using h2) (by simpa using h3) (by simpa using h4)]
theorem same_upd1 {o : Addr} {u : HO} (fo : F o = none) : Same F (upd F o u) := fun a z h => by
  rw [upd_ne (fun e => by rw [e, fo] at h; cases h)]
  exact h
theorem wf_one {o : Addr} {u : HO} (w : Wf R F H) (nM : ¬ R.M o) (hu : H o = some u) : Wf R (upd F o u) H := by
  refine ⟨fun a z h => ?_, fun a m => ?_, w.oc, w.b⟩
  · by_cases e : a = o
    · subst e; rw [upd_same] at h; rw [hu]; exact h
    · rw [upd_ne e] at h; exact w.fh a z h
  · rw [upd_ne (fun e => nM (by rw [← e]; exact m))]
    exact w.off a m
theorem wf_del {F' H' : Hp} {o : Addr} (w : Wf R F' H') : Wf R (del F' o) H' := by
  refine ⟨fun a z h => ?_, fun a m => ?_, w.oc, w.b⟩
  · by_cases e : a = o
    · subst e; rw [del_same] at h; cases h
    · rw [del_ne e] at h; exact w.fh a z h
  · by_cases e : a = o
    · subst e; exact del_same
    · rw [del_ne e]; exact w.off a m
theorem ext_del {F' H' : Hp} {o : Addr} {u : HO} (fo : F o = none) (ex : Ext R (upd F o u) H F' H') : Ext R F H (del F' o) H' := by
  refine ⟨wf_del ex.wf, fun a z h => ?_, ex.hh, fun a h n => ?_⟩
  · have e : a ≠ o := fun e => by rw [e, fo] at h; cases h
    rw [del_ne e]
    exact ex.ff a z (by rw [upd_ne e]; exact h)
  · by_cases e : a = o
    · subst e; exact del_same
    · rw [del_ne e]; exact ex.fr a h (by rw [upd_ne e]; exact n)
/-- a slot, when the thing at o is lent -/
theorem SlOk.lend {o : Addr} {u : HO} {g : Sl} {v : Option V} (fo : F o = none) (h : SlOk K R F H g v) (hn : ∀ d, g = .ow d → v ≠ some (.ref o)) : SlOk K R (upd F o u) H g v := by
  cases g with
  | no => trivial
  | sh d => obtain ⟨x, e, r⟩ := h; exact ⟨x, e, r.mono (same_upd1 fo)⟩
  | ow d =>
    obtain ⟨q, e, h1, h2, h3⟩ := h
    have ne : q ≠ o := fun z => hn d rfl (by rw [e, z])
    exact ⟨q, e, by rw [upd_ne ne]; exact h1, h2, h3.mono (same_upd1 fo) fun _ z => z⟩
theorem Ty.lend {i : Nat} {d0 : Dt} {o : Addr} {u : HO} (ty : Ty K R G σ F H) (hg : G[i]? = some (.ow d0)) (hs : σ[i]? = some (some (.ref o))) (fo : F o = none) (nM : ¬ R.M o) (ow : OwO K F H o d0) (hu : H o = some u) : Ty K R (G.set i (.sh d0)) σ (upd F o u) H := by
  refine ⟨wf_one ty.wf nM hu, sls_of (by rw [List.length_set]; exact ty.sl.len) fun j g hj => ?_, ?_⟩
  · by_cases e : j = i
    · subst e
      have hl : j < G.length := (List.getElem?_eq_some_iff.mp hg).1
      rw [List.getElem?_set_self hl] at hj
      cases hj
      exact ⟨_, hs, .ref o, rfl, owo_rp ow (same_upd1 fo) (by rw [upd_same, hu])⟩
    · rw [List.getElem?_set_ne (Ne.symm e)] at hj
      obtain ⟨v, h1, h2⟩ := ty.sl.get hj
      refine ⟨v, h1, h2.lend fo fun d hd hv => ?_⟩
      subst hd hv
      exact e (own_inj ty.nd hj h1 hg hs)
  · have hsσ : σ.set i (some (.ref o)) = σ := by
      apply List.ext_getElem?
      intro j
      by_cases e : j = i
      · subst e
        have hl : j < σ.length := (List.getElem?_eq_some_iff.mp hs).1
        rw [List.getElem?_set_self hl, hs]
      · rw [List.getElem?_set_ne (Ne.symm e)]
    have := owns_set_sub (G := G) (σ := σ) i (g := .sh d0) (v := some (.ref o)) (fun _ z => nomatch z)
    rw [hsσ] at this
    exact ty.nd.sublist this
end
section
variable {X : Cx} {R : Reg} {G : List Sl} {pos : Pos} {k : Kt}
/-- e with one's own thing in slot i lent -/
theorem e_bor (i : Nat) {d0 : Dt} {e : Expr} {P : Dt → Prop} (hg : G[i]? = some (.ow d0)) (h : E X R (G.set i (.sh d0)) e fun d => fre (kOf d0) d = true ∧ P d) : E X R G e P := fun σ F H Q ty c => by
  obtain ⟨o, hs, fo, nM, ow⟩ := ty.own hg
  obtain ⟨u, hu, hk⟩ := ow.kd
  exact h σ (upd F o u) H Q (ty.lend hg hs fo nM ow hu) fun v F' H' d ex r ⟨hf, p⟩ => c v (del F' o) H' d (ext_del fo ex) (rp_del (ex.ff _ _ upd_same) hk r hf) p
theorem t_bor (i : Nat) {d0 : Dt} {e : Expr} {P : Bool → Prop} (hg : G[i]? = some (.ow d0)) (h : T X R (G.set i (.sh d0)) e P) : T X R G e P := fun σ F H Q ty c => by
  obtain ⟨o, hs, fo, nM, ow⟩ := ty.own hg
  obtain ⟨u, hu, hk⟩ := ow.kd
  exact h σ (upd F o u) H Q (ty.lend hg hs fo nM ow hu) fun b F' H' ex p => c b (del F' o) H' (ext_del fo ex) p
/-! ### new things of any kind -/
def CtW (K : PySem.W.Frag) (R : Reg) (F H : Hp) (P : Dt → Prop) (Q : VK) : Prop := ∀ p F' H' d, Ext R F H F' H' → H p = none → ¬ R.M p → F' p = none → OwO K F' H' p d → P d → Q (.ref p) H'
def EW (X : Cx) (R : Reg) (G : List Sl) (e : Expr) (P : Dt → Prop) : Prop := ∀ σ F H Q, Ty X.K R G σ F H → CtW X.K R F H P Q → tOf X e σ H Q
theorem ew_of {e : Expr} {P : Dt → Prop} (h : EN X R G e fun ds => P (.lst ds)) : EW X R G e P := fun σ F H Q ty c => h σ F H Q ty fun p F' H' ds vs ex hp nM ho fp r q => c p F' H' (.lst ds) ex hp nM fp ⟨vs, ho, r⟩ q
theorem s_aO (i : Nat) {x : Str} {e : Expr} {pos' : Pos} (hN : X.N.Nodup) (h : EW X R G e fun d => k.nx (G.set i (.ow d))) (hi : X.N[i]? = some x := by rfl) (hx : Loc X.env.scope x := by first | exact Or.inl rfl | exact Or.inr rfl)
    (hs : swapsWith e (some (.Name x pos')) pos.line X.env = pure false := by rfl) (hf : X.fn x = true ∨ X.env.scope.names.lookup x = some .local := by first | exact .inl rfl | exact .inr rfl | assumption) : S1 X R (.Assign [.Name x pos'] e pos) G k := fun F0 H0 σ F H D ty b c =>
  s1Of.of (ps_set hN hi hx pe_w hs hf) (h σ F H _ ty fun p F1 H1 d ex hp nM fp ho q => c.nx _ _ F1 H1 q (ty.setOwn ex i hp nM fp ho) (b.setOwn ex i hp))
end
/-! ### defs that give back new things -/
def spN (K : PySem.W.Frag) (n : Nat) (φ : Ph) : Sp := fun vs H Q E => vs.length = n ∧ ∃ F ds q x, Same F H ∧ RpL K F ds vs ∧ φ ds q x ∧ (∀ p F' H' d, Ext .nil F H F' H' → H p = none → F' p = none → OwO K F' H' p d → q d → Q (.ref p) H') ∧ XOk K .nil F H x E
section
variable {P : Program} {w : World} {K : PySem.W.Frag} {mg : Str → Option Value} {base : Heap}
end
section
variable {X : Cx} {R : Reg} {G : List Sl} {pos : Pos} {k : Kt}
end
end VS
set_option Elab.async false
set_option linter.all false
set_option maxRecDepth 100000
/-! a thing of one's own, lent for a statement. -/
namespace VS
open PySem PySem.Spec L2
/-- data that lie at a place -/
def placed : Dt → Bool
  | .lst _ => true
  | .frl _ => true
  | .tup _ => true
  | .dT _ _ => true
  | .dK _ _ => true
  | .obj _ _ _ => true
  | .adr _ => true
  | .key _ => true
  | _ => false
/-- slots with their places told: those of G, as they stand while the thing in slot i is lent -/
inductive Tg (tg : Nat → Addr) (i : Nat) (d0 : Dt) : Nat → List Sl → List Sl → Prop where
  | nil {n : Nat} : Tg tg i d0 n [] []
  | keep {n : Nat} {g : Sl} {G T : List Sl} (hn : n ≠ i) (h : Tg tg i d0 (n + 1) G T) : Tg tg i d0 n (g :: G) (g :: T)
  | tag {n : Nat} {d : Dt} {G T : List Sl} (hn : n ≠ i) (hd : placed d = true) (h : Tg tg i d0 (n + 1) G T) : Tg tg i d0 n (.sh d :: G) (.sh (.at_ (tg n) d) :: T)
  | me {G T : List Sl} (h : Tg tg i d0 (i + 1) G T) : Tg tg i d0 i (.ow d0 :: G) (.sh (.at_ (tg i) d0) :: T)
/-- A as it stands at the end, G as it stood, what is left then -/
inductive Bk (κ : Nat) (tg : Nat → Addr) (i : Nat) (d0 : Dt) : Nat → List Sl → List Sl → List Sl → Prop where
  | nil {n : Nat} : Bk κ tg i d0 n [] [] []
  | no {n : Nat} {a g : Sl} {A G B : List Sl} (hn : n ≠ i) (h : Bk κ tg i d0 (n + 1) A G B) : Bk κ tg i d0 n (a :: A) (g :: G) (.no :: B)
  | free {n : Nat} {d : Dt} {g : Sl} {A G B : List Sl} (hn : n ≠ i) (hf : fre κ d = true) (h : Bk κ tg i d0 (n + 1) A G B) : Bk κ tg i d0 n (.sh d :: A) (g :: G) (.sh d :: B)
  | tag {n : Nat} {d : Dt} {A G B : List Sl} (hn : n ≠ i) (hd : placed d = true) (h : Bk κ tg i d0 (n + 1) A G B) : Bk κ tg i d0 n (.sh (.at_ (tg n) d) :: A) (.sh d :: G) (.sh d :: B)
  | own {n : Nat} {d : Dt} {g : Sl} {A G B : List Sl} (hn : n ≠ i) (hf : freO κ d = true) (h : Bk κ tg i d0 (n + 1) A G B) : Bk κ tg i d0 n (.ow d :: A) (g :: G) (.ow d :: B)
  | me {A G B : List Sl} (h : Bk κ tg i d0 (i + 1) A G B) : Bk κ tg i d0 i (.sh (.at_ (tg i) d0) :: A) (.ow d0 :: G) (.ow d0 :: B)
section
variable {K : PySem.W.Frag} {R : Reg} {F H : Hp} {tg : Nat → Addr} {i : Nat} {d0 : Dt} {κ : Nat}
theorem Tg.len {n : Nat} {G T : List Sl} (h : Tg tg i d0 n G T) : G.length = T.length := by
  induction h with
  | nil => rfl
  | keep _ _ ih => simp [ih]
  | tag _ _ _ ih => simp [ih]
  | me _ ih => simp [ih]
theorem Tg.get {n : Nat} {G T : List Sl} (h : Tg tg i d0 n G T) : ∀ {j : Nat} {t : Sl}, T[j]? = some t → (n + j ≠ i ∧ G[j]? = some t) ∨ (n + j ≠ i ∧ ∃ d, G[j]? = some (.sh d) ∧ t = .sh (.at_ (tg (n + j)) d) ∧ placed d = true) ∨ (n + j = i ∧ G[j]? = some (.ow d0) ∧ t = .sh (.at_ (tg i) d0)) := by
  induction h with
  | nil => intro j t hj; simp at hj
  | @keep n g G T hn _ ih =>
    intro j t hj
    cases j with
    | zero => cases hj; exact .inl ⟨hn, rfl⟩
    | succ j =>
      have := ih (j := j) (t := t) (by simpa using hj)
      rw [show n + 1 + j = n + (j + 1) by omega] at this
      simpa using this
  | @tag n d G T hn hd _ ih =>
    intro j t hj
    cases j with
    | zero => cases hj; exact .inr (.inl ⟨hn, d, rfl, rfl, hd⟩)
    | succ j =>
      have := ih (j := j) (t := t) (by simpa using hj)
      rw [show n + 1 + j = n + (j + 1) by omega] at this
      simpa using this
  | @me G T _ ih =>
    intro j t hj
    cases j with
    | zero => cases hj; exact .inr (.inr ⟨rfl, rfl, rfl⟩)
    | succ j =>
      have := ih (j := j) (t := t) (by simpa using hj)
      rw [show i + 1 + j = i + (j + 1) by omega] at this
      simpa using this
theorem Bk.len {n : Nat} {A G B : List Sl} (h : Bk κ tg i d0 n A G B) : B.length = A.length := by
  induction h with
  | nil => rfl
  | no _ _ ih => simp [ih]
  | free _ _ _ ih => simp [ih]
  | tag _ _ _ ih => simp [ih]
  | own _ _ _ ih => simp [ih]
  | me _ ih => simp [ih]
theorem Bk.get {n : Nat} {A G B : List Sl} (h : Bk κ tg i d0 n A G B) : ∀ {j : Nat} {b : Sl}, B[j]? = some b → (n + j ≠ i ∧ b = .no ∧ ∃ a, A[j]? = some a) ∨ (n + j ≠ i ∧ ∃ d, b = .sh d ∧ A[j]? = some (.sh d) ∧ fre κ d = true) ∨ (n + j ≠ i ∧ ∃ d, b = .sh d ∧ A[j]? = some (.sh (.at_ (tg (n + j)) d)) ∧ G[j]? = some (.sh d) ∧ placed d = true) ∨
    (n + j ≠ i ∧ ∃ d, b = .ow d ∧ A[j]? = some (.ow d) ∧ freO κ d = true) ∨ (n + j = i ∧ b = .ow d0 ∧ A[j]? = some (.sh (.at_ (tg i) d0)) ∧ G[j]? = some (.ow d0)) := by
  induction h with
  | nil => intro j t hj; simp at hj
  | @no n a g A G B hn _ ih =>
    intro j t hj
    cases j with
    | zero => cases hj; exact .inl ⟨hn, rfl, a, rfl⟩
    | succ j =>
      have := ih (j := j) (b := t) (by simpa using hj)
      rw [show n + 1 + j = n + (j + 1) by omega] at this
      simpa using this
  | @free n d g A G B hn hf _ ih =>
    intro j t hj
    cases j with
    | zero => cases hj; exact .inr (.inl ⟨hn, d, rfl, rfl, hf⟩)
    | succ j =>
      have := ih (j := j) (b := t) (by simpa using hj)
      rw [show n + 1 + j = n + (j + 1) by omega] at this
      simpa using this
  | @tag n d A G B hn hd _ ih =>
    intro j t hj
    cases j with
    | zero => cases hj; exact .inr (.inr (.inl ⟨hn, d, rfl, rfl, rfl, hd⟩))
    | succ j =>
      have := ih (j := j) (b := t) (by simpa using hj)
      rw [show n + 1 + j = n + (j + 1) by omega] at this
      simpa using this
  | @own n d g A G B hn hf _ ih =>
    intro j t hj
    cases j with
    | zero => cases hj; exact .inr (.inr (.inr (.inl ⟨hn, d, rfl, rfl, hf⟩)))
    | succ j =>
      have := ih (j := j) (b := t) (by simpa using hj)
      rw [show n + 1 + j = n + (j + 1) by omega] at this
      simpa using this
  | @me A G B _ ih =>
    intro j t hj
    cases j with
    | zero => cases hj; exact .inr (.inr (.inr (.inr ⟨rfl, rfl, rfl, rfl⟩)))
    | succ j =>
      have := ih (j := j) (b := t) (by simpa using hj)
      rw [show i + 1 + j = i + (j + 1) by omega] at this
      simpa using this
end
section
variable {X : Cx} {R : Reg} {G : List Sl} {pos : Pos} {k : Kt}
/-- a variable whose place is told -/
theorem e_vA (i : Nat) {x : Str} {a : Addr} {d : Dt} {P : Dt → Prop} (p : P d) (hg : G[i]? = some (.sh (.at_ a d)) := by rfl) (hN : X.N[i]? = some x := by rfl) (hv : Vis X.env.scope x := by first | exact Or.inl rfl | exact Or.inr (Or.inl rfl) | exact Or.inr (Or.inr rfl))
    (hd : (x == ("__debug__" : Str)) = false := by decide) (hcd : (x == ("__classdict__" : Str)) = false := by decide) : E X R G (.Name x pos) P := fun σ F H Q ty c => by
  obtain ⟨v, e1, y, e2, r⟩ := ty.sl.get hg
  simp only [Rp] at r
  exact tOf.of (pe_var hN hv hd hcd) ⟨y, by rw [e1, e2], c.here ty.wf r.2 p⟩
/-- the address that a slot holds -/
def adrOf : Option (Option V) → Addr
  | some (some (.ref a)) => a
  | _ => default
mutual
theorem rp_ref {K : PySem.W.Frag} {F : Hp} : ∀ {d : Dt} {v : V}, Rp K F d v → (∃ xs, d = .lst xs) ∨ (∃ xs, d = .frl xs) ∨ (∃ xs, d = .tup xs) ∨ (∃ ks xs, d = .dT ks xs) ∨ (∃ ks xs, d = .dK ks xs) ∨ (∃ C ns xs, d = .obj C ns xs) ∨ (∃ a, d = .adr a) ∨ (∃ ks, d = .key ks) → ∃ a, v = .ref a
  | d, v, h, hd => by
    rcases hd with ⟨xs, rfl⟩ | ⟨xs, rfl⟩ | ⟨xs, rfl⟩ | ⟨ks, xs, rfl⟩ | ⟨ks, xs, rfl⟩ | ⟨C, ns, xs, rfl⟩ | ⟨a, rfl⟩ | ⟨ks, rfl⟩
    · obtain ⟨a, _, e, _⟩ := rp_lst.mp h; exact ⟨a, e⟩
    · obtain ⟨a, _, e, _⟩ := rp_frl.mp h; exact ⟨a, e⟩
    · obtain ⟨a, _, e, _⟩ := rp_tup.mp h; exact ⟨a, e⟩
    · obtain ⟨a, _, e, _⟩ := rp_dT.mp h; exact ⟨a, e⟩
    · simp only [Rp] at h; obtain ⟨a, _, e, _⟩ := h; exact ⟨a, e⟩
    · obtain ⟨a, _, _, e, _⟩ := rp_obj.mp h; exact ⟨a, e⟩
    · exact ⟨a, rp_adr.mp h⟩
    · obtain ⟨a, e, _⟩ := rp_key.mp h; exact ⟨a, e⟩
end
end
end VS
set_option Elab.async false
set_option linter.all false
set_option maxRecDepth 100000
/-! a list within a thing, changed: at a law's top, where nothing need stay. -/
namespace VS
open PySem PySem.Spec L2
/-- no reference -/
def flatD : Dt → Bool
  | .non => true
  | .bl _ => true
  | .int _ => true
  | .str _ => true
  | .ty _ => true
  | _ => false
def headF : List Dt → Bool
  | [] => true
  | x :: _ => flatD x
mutual
/-- data in which no list stands that begins with a reference -/
def freQ : Dt → Bool
  | .tup xs => freQL xs
  | .lst xs => headF xs && freQL xs
  | .frl xs => headF xs && freQL xs
  | .dT _ xs => freQL xs
  | .dK _ xs => freQL xs
  | .obj _ _ xs => freQL xs
  | .exv _ _ xs _ => freQL xs
  | .at_ _ d => freQ d
  | .non => true
  | .bl _ => true
  | .int _ => true
  | .str _ => true
  | .ty _ => true
  | .adr _ => true
  | .key _ => true
def freQL : List Dt → Bool
  | [] => true
  | x :: xs => freQ x && freQL xs
end
section
variable {K : PySem.W.Frag} {F : Hp} {p : Addr} {x : Addr} {ws : List V}
theorem flat_head {ds : List Dt} {vs : List V} (h : RpL K F ds vs) (hf : headF ds = true) : vs ≠ .ref x :: ws := fun e => by
  cases ds with
  | nil => rw [show vs = [] from by simpa only [RpL] using h] at e; cases e
  | cons d ds =>
    obtain ⟨v, r, rfl, h1, h2⟩ := RpL.of_cons h
    injection e with e1 e2
    subst e1
    cases d <;> simp only [headF, flatD, Bool.false_eq_true] at hf <;> simp only [Rp] at h1 <;> cases h1
mutual
theorem rp_delQ (hp : F p = some (.lst (.ref x :: ws))) : ∀ {d : Dt} {v : V}, Rp K F d v → freQ d = true → Rp K (del F p) d v
  | .non, _, h, _ => by simp only [Rp] at h ⊢; exact h
  | .bl _, _, h, _ => by simp only [Rp] at h ⊢; exact h
  | .int _, _, h, _ => by simp only [Rp] at h ⊢; exact h
  | .str _, _, h, _ => by simp only [Rp] at h ⊢; exact h
  | .ty _, _, h, _ => by simp only [Rp] at h ⊢; exact h
  | .adr _, _, h, _ => by simp only [Rp] at h ⊢; exact h
  | .tup xs, _, h, hf => by
    simp only [Rp] at h ⊢
    simp only [freQ] at hf
    obtain ⟨a, vs, h1, h2, h3⟩ := h
    exact ⟨a, vs, h1, sqt_del (κ := 0) hp ⟨_, rfl⟩ h2, rpL_delQ hp h3 hf⟩
  | .lst xs, _, h, hf => by
    simp only [Rp] at h ⊢
    simp only [freQ, Bool.and_eq_true] at hf
    obtain ⟨a, vs, h1, h2, h3⟩ := h
    exact ⟨a, vs, h1, del_at hp (fun z => flat_head h3 hf.1 (HO.lst.inj z).symm) h2, rpL_delQ hp h3 hf.2⟩
  | .frl xs, _, h, hf => by
    simp only [Rp] at h ⊢
    simp only [freQ, Bool.and_eq_true] at hf
    obtain ⟨a, vs, h1, h2, h3⟩ := h
    refine ⟨a, vs, h1, ?_, rpL_delQ hp h3 hf.2⟩
    rcases h2 with (h | ⟨z, h⟩) | h
    · exact .inl (.inl (del_at hp (fun z => flat_head h3 hf.1 (HO.lst.inj z).symm) h))
    · exact .inl (.inr ⟨z, del_at hp (fun z => nomatch z) h⟩)
    · exact .inr h
  | .dT ks xs, _, h, hf => by
    simp only [Rp] at h ⊢
    simp only [freQ] at hf
    obtain ⟨a, vs, h1, h2, h4, h3⟩ := h
    exact ⟨a, vs, h1, rd_del (κ := 0) hp ⟨_, rfl⟩ (fun z => nomatch z) h2, h4, rpL_delQ hp h3 hf⟩
  | .dK ks xs, _, h, hf => by
    simp only [Rp] at h ⊢
    simp only [freQ] at hf
    obtain ⟨a, vs, h1, h2, h4, h3⟩ := h
    exact ⟨a, vs, h1, rd_del (κ := 0) hp ⟨_, rfl⟩ (fun z => nomatch z) h2, h4, rpL_delQ hp h3 hf⟩
  | .key ks, _, h, hf => by
    simp only [Rp] at h ⊢
    obtain ⟨a, h1, h2⟩ := h
    exact ⟨a, h1, del_at hp (fun z => nomatch z) h2⟩
  | .obj C ns xs, _, h, hf => by
    simp only [Rp] at h ⊢
    simp only [freQ] at hf
    obtain ⟨a, dx, vs, h1, h2, h4, h3⟩ := h
    exact ⟨a, dx, vs, h1, del_at hp (fun z => nomatch z) h2, h4, rpL_delQ hp h3 hf⟩
  | .exv a ns xs d, _, h, hf => by
    simp only [Rp] at h ⊢
    simp only [freQ] at hf
    refine ⟨h.1, fun dx hd => ?_⟩
    obtain ⟨vs, h1, h2, h3⟩ := h.2 dx hd
    exact ⟨vs, del_at hp (fun z => nomatch z) h1, h2, rpL_delQ hp h3 hf⟩
  | .at_ a d, _, h, hf => by
    simp only [Rp] at h ⊢
    simp only [freQ] at hf
    exact ⟨h.1, rp_delQ hp h.2 hf⟩
theorem rpL_delQ (hp : F p = some (.lst (.ref x :: ws))) : ∀ {ds : List Dt} {vs : List V}, RpL K F ds vs → freQL ds = true → RpL K (del F p) ds vs
  | [], _, h, _ => by simp only [RpL] at h ⊢; exact h
  | d :: ds, _, h, hf => by
    simp only [RpL] at h ⊢
    simp only [freQL, Bool.and_eq_true] at hf
    obtain ⟨v, r, h1, h2, h3⟩ := h
    exact ⟨v, r, h1, rp_delQ hp h2 hf.1, rpL_delQ hp h3 hf.2⟩
end
end
/-- what may be said still when such a list was changed -/
inductive Nb : List Sl → List Sl → Prop where
  | nil : Nb [] []
  | no {g : Sl} {G B : List Sl} (h : Nb G B) : Nb (g :: G) (.no :: B)
  | sh {d : Dt} {G B : List Sl} (hf : freQ d = true) (h : Nb G B) : Nb (.sh d :: G) (.sh d :: B)
section
variable {K : PySem.W.Frag} {R : Reg} {F H : Hp} {p : Addr} {x : Addr} {ws ws' : List V}
end
/-- statements after which nothing need stay -/
structure KM (K : PySem.W.Frag) (R : Reg) (k : Kt) (D : Ends) : Prop where
  nx : ∀ G σ F H, k.nx G → Ty K R G σ F H → D.nx σ H
  rt : ∀ d v F H, k.rt d → Wf R F H → Rp K F d v → D.rt v H
  rn : ∀ d, ¬ k.rn d
  bk : ∀ G, ¬ k.bk G
  ct : ∀ G, ¬ k.ct G
def SM (X : Cx) (R : Reg) (ss : List Stmt) (G : List Sl) (k : Kt) : Prop := ∀ σ F H D, Ty X.K R G σ F H → KM X.K R k D → sOf X ss D σ H
section
variable {X : Cx} {R : Reg} {G : List Sl} {pos : Pos} {k : Kt}
open Classical in
/-- only the region is kept -/
noncomputable def regH (R : Reg) (H : Hp) : Hp := fun a => if R.M a then H a else none
theorem KM.ok {D : Ends} (c : KM X.K R k D) {F0 H0 : Hp} : KOk X.K R F0 H0 k D := ⟨fun G σ F H h ty _ => c.nx G σ F H h ty, fun d v F H h e r => c.rt d v F H h e.wf r, fun d p F H h => absurd h (c.rn d), fun G σ F H h => absurd h (c.bk G), fun G σ F H h => absurd h (c.ct G)⟩
end
section
variable {P : Program} {w : World} {K : PySem.W.Frag} {mg : Str → Option Value} {base : Heap}
end
end VS
set_option Elab.async false
set_option linter.all false
set_option maxRecDepth 100000
/-! plain: words, split at the slash. -/
namespace VS
open PySem PySem.Spec L2
def dueS : List (List Nat) → Option (Int × Int)
  | [p, q] => if okSh (rdNum p 30) (rdNum q 30) = true then some (rdNum p 30, rdNum q 30) else none
  | _ => none
def wdO : Option (Str × Option (Int × Int)) → Dt
  | some w => wdD w
  | none => .non
def ph__law_number : Ph := fun ds q _ => ∃ l : List Nat, ds = [.str (SX.S l)] ∧ l.length ≤ 90000 ∧ q (.int (rdNum l 30))
def ph__law_due : Ph := fun ds q _ => ∃ l : List Nat, ds = [.str (SX.S l)] ∧ l.length ≤ 90000 ∧ q (wdO (rdWord l))
def ph__law_written : Ph := fun ds q _ => ds = [] ∧ ∀ l : List Nat, l.length ≤ 50 → q (.str (SX.S l))
def ph__law_text : Ph := fun ds q _ => ds = [] ∧ ∀ l : List Nat, l.length ≤ 200 → q (.str (SX.S l))
def ph__law_refused : Ph := fun ds q _ => ∃ (i : Int) (l : List Nat), ds = [.int i, .str (SX.S l)] ∧ (l.length ≤ 90000 ∧ rdWord l = none) ∧ q (.bl true)
def ph_is_wrongE (C : Addr) : Ph := fun ds q x => ∃ (l : List Nat) (s : Int × Int), ds = [.str (SX.S l), ratD s] ∧ (l.length ≤ 90000 ∧ SzR 400 s) ∧ (∀ w, rdWord l = some w → q (.bl (wrongW w s))) ∧ (rdWord l = none → x C ["word"] [.str (SX.S l)])
end VS
set_option Elab.async false
set_option linter.all false
set_option maxRecDepth 100000
/-! plain: polynomials as lists of ints. -/
namespace VS
open PySem PySem.Spec L2
/-- the i-th coefficient -/
def cf (l : List Int) (i : Nat) : Int := l.getD i 0
@[simp] theorem cf_nil (i : Nat) : cf [] i = 0 := by simp [cf]
@[simp] theorem cf_zero (x : Int) (l : List Int) : cf (x :: l) 0 = x := by simp [cf]
@[simp] theorem cf_succ (x : Int) (l : List Int) (i : Nat) : cf (x :: l) (i + 1) = cf l i := by simp [cf]
theorem cf_ge {l : List Int} {i : Nat} (h : l.length ≤ i) : cf l i = 0 := by
  unfold cf
  rw [List.getD_eq_getElem?_getD, List.getElem?_eq_none h]
  rfl
theorem cf_lt {l : List Int} {i : Nat} (h : i < l.length) : l[i]? = some (cf l i) := by
  unfold cf
  rw [List.getD_eq_getElem?_getD, List.getElem?_eq_getElem h]
  rfl
/-- without zeros at the end -/
def trimL : List Int → List Int
  | [] => []
  | x :: l => if trimL l = [] ∧ x = 0 then [] else x :: trimL l
theorem cf_trim : ∀ (l : List Int) (i : Nat), cf (trimL l) i = cf l i
  | [], i => rfl
  | x :: l, i => by
    unfold trimL
    split
    · rename_i h
      cases i with
      | zero => rw [h.2]; simp
      | succ j =>
        have := cf_trim l j
        rw [h.1] at this
        simpa using this
    · cases i with
      | zero => simp
      | succ j => simp [cf_trim l j]
theorem trim_nil_iff : ∀ (l : List Int), trimL l = [] ↔ ∀ i, cf l i = 0
  | [] => by simp [trimL]
  | x :: l => by
    have ih := trim_nil_iff l
    unfold trimL
    constructor
    · intro h i
      split at h
      · rename_i z
        cases i with
        | zero => simp [z.2]
        | succ j => simp [ih.mp z.1 j]
      · cases h
    · intro h
      rw [if_pos]
      exact ⟨ih.mpr fun i => by have := h (i + 1); simpa using this, by have := h 0; simpa using this⟩
theorem trim_ext : ∀ {a b : List Int}, (∀ i, cf a i = cf b i) → trimL a = trimL b
  | [], b, h => by
    have : trimL b = [] := (trim_nil_iff b).mpr fun i => by rw [← h i]; simp
    rw [this]; rfl
  | x :: a, [], h => by
    have : trimL (x :: a) = [] := (trim_nil_iff _).mpr fun i => by rw [h i]; simp
    rw [this]; rfl
  | x :: a, y :: b, h => by
    have e : x = y := by have := h 0; simpa using this
    have t : trimL a = trimL b := trim_ext fun i => by have := h (i + 1); simpa using this
    unfold trimL
    rw [e, t]
theorem trim_idem (l : List Int) : trimL (trimL l) = trimL l := trim_ext (cf_trim l)
theorem trim_len : ∀ (l : List Int), (trimL l).length ≤ l.length
  | [] => Nat.le_refl _
  | x :: l => by
    have := trim_len l
    unfold trimL
    split
    · simp
    · simp; omega
/-- trimmed -/
def Tr (l : List Int) : Prop := trimL l = l
theorem tr_trim (l : List Int) : Tr (trimL l) := trim_idem l
theorem tr_nil : Tr [] := rfl
/-- sums -/
def addL : List Int → List Int → List Int
  | [], b => b
  | a, [] => a
  | x :: a, y :: b => (x + y) :: addL a b
theorem cf_add : ∀ (a b : List Int) (i : Nat), cf (addL a b) i = cf a i + cf b i
  | [], b, i => by simp [addL]
  | x :: a, [], i => by simp [addL]
  | x :: a, y :: b, 0 => by simp [addL]
  | x :: a, y :: b, i + 1 => by simp [addL, cf_add a b i]
theorem len_add : ∀ (a b : List Int), (addL a b).length = max a.length b.length
  | [], b => by simp [addL]
  | x :: a, [] => by simp [addL]
  | x :: a, y :: b => by simp only [addL, List.length_cons, len_add a b]; omega
def scL (c : Int) (l : List Int) : List Int := l.map (c * ·)
theorem cf_sc (c : Int) : ∀ (l : List Int) (i : Nat), cf (scL c l) i = c * cf l i
  | [], i => by simp [scL]
  | x :: l, 0 => by simp [scL]
  | x :: l, i + 1 => by
    have := cf_sc c l i
    simpa [scL] using this
theorem len_sc (c : Int) (l : List Int) : (scL c l).length = l.length := by simp [scL]
/-- sizes -/
def SzL (B : Nat) (l : List Int) : Prop := ∀ x ∈ l, x.natAbs < 2 ^ B
theorem SzL.nil {B : Nat} : SzL B [] := fun x h => nomatch h
theorem SzL.one {B : Nat} {x : Int} (h : x.natAbs < 2 ^ B) : SzL B [x] := fun y hy => by rw [List.mem_singleton.mp hy]; exact h
/-- a polynomial as an object -/
def polD (C : Addr) (l : List Int) : Dt := .obj C ["coefs"] [.tup (l.map .int)]
def iL (l : List Int) : Dt := .lst (l.map .int)
def iT (l : List Int) : Dt := .tup (l.map .int)
theorem at_cf {s : List Int} {z : Int} {j : Nat} (e : z = (j : Int)) (h : j < s.length) : atI (s.map Dt.int) z = some (.int (cf s j)) := by
  rw [e]
  refine atI_nat ?_
  rw [List.getElem?_map, cf_lt h]
  rfl
def ph_trim : Ph := fun ds q _ => ∃ (l : List Int) (d : Dt), ds = [d] ∧ (d = iL l ∨ d = iT l) ∧ l.length ≤ 100000 ∧ q (iT (trimL l))
def padL (l : List Int) (n : Int) : List Int := l ++ List.replicate (n - (l.length : Int)).toNat 0
theorem rep_zero (k : Nat) : ∀ j, cf (List.replicate k 0) j = 0 := by
  induction k with
  | zero => intro j; simp
  | succ k ih =>
    intro j
    cases j with
    | zero => rw [List.replicate_succ]; simp
    | succ j => rw [List.replicate_succ, cf_succ]; exact ih j
theorem cf_app : ∀ (a b : List Int) (i : Nat), cf (a ++ b) i = if i < a.length then cf a i else cf b (i - a.length)
  | [], b, i => by simp
  | x :: a, b, 0 => by simp
  | x :: a, b, i + 1 => by
    rw [List.cons_append, cf_succ, cf_app a b i, cf_succ, List.length_cons]
    by_cases h : i < a.length
    · rw [if_pos h, if_pos (by omega)]
    · rw [if_neg h, if_neg (by omega)]
      congr 1
      omega
def ph_padded : Ph := fun ds q _ => ∃ (l : List Int) (n : Int), ds = [iT l, .int n] ∧ (l.length ≤ 50000 ∧ n ≤ 1000 ∧ -1000 ≤ n) ∧ q (iT (padL l n))
def ph_plus : Ph := fun ds q _ => ∃ (a b : List Int), ds = [iT a, iT b] ∧ (a.length ≤ 900 ∧ b.length ≤ 900) ∧ q (iT (trimL (addL a b)))
def ph_scaled : Ph := fun ds q _ => ∃ (a : List Int) (c : Int) (B C : Nat), ds = [iT a, .int c] ∧ (a.length ≤ 900 ∧ SzL B a ∧ c.natAbs < 2 ^ C ∧ C + B ≤ 900000) ∧ q (iT (trimL (scL c a)))
def subL (a b : List Int) : List Int := addL a (scL (-1) b)
def ph_minus : Ph := fun ds q _ => ∃ (a b : List Int) (B : Nat), ds = [iT a, iT b] ∧ (a.length ≤ 900 ∧ b.length ≤ 900 ∧ SzL B b ∧ B ≤ 800000) ∧ q (iT (trimL (subL a b)))
/-- the class Poly's methods -/
def ph_Poly___init__ (C : Addr) : Ph := fun ds q _ => ∃ l : List Int, ds = [iT l] ∧ l.length ≤ 100000 ∧ q (polD C (trimL l))
def ph_Poly_of (C : Addr) : Ph := fun ds q _ => ∃ (l : List Int) (d : Dt), ds = [.adr C, d] ∧ (d = iL l ∨ d = iT l) ∧ l.length ≤ 90000 ∧ q (polD C (trimL l))
/-- a polynomial or an int, by its coefficients -/
def Oth (C : Addr) (d : Dt) (b : List Int) : Prop := d = polD C b ∨ ∃ i, d = .int i ∧ b = trimL [i]
def ph_coefs_of (C : Addr) : Ph := fun ds q _ => ∃ (d : Dt) (b : List Int), ds = [d] ∧ Oth C d b ∧ q (iT b)
def ph_add2 (f : List Int → List Int → List Int) (C : Addr) : Ph := fun ds q _ => ∃ (a b : List Int) (d : Dt) (B : Nat), ds = [polD C a, d] ∧ Oth C d b ∧ (a.length ≤ 900 ∧ b.length ≤ 900 ∧ SzL B a ∧ SzL B b ∧ B ≤ 800000) ∧ q (polD C (trimL (f a b)))
abbrev ph_Poly___add__ := ph_add2 addL
abbrev ph_Poly___radd__ := ph_add2 addL
abbrev ph_Poly___sub__ := ph_add2 subL
abbrev ph_Poly___rsub__ := ph_add2 fun a b => subL b a
def ph_Poly___neg__ (C : Addr) : Ph := fun ds q _ => ∃ (a : List Int) (B : Nat), ds = [polD C a] ∧ (a.length ≤ 900 ∧ SzL B a ∧ B ≤ 800000) ∧ q (polD C (trimL (scL (-1) a)))
def ph__law_row (C : Addr) : Ph := fun ds q _ => ∃ l : List Int, ds = [polD C l] ∧ (Tr l ∧ l.length ≤ 90000) ∧ q (iL l)
def ph__law_trim : Ph := fun ds q _ => ∃ l : List Int, ds = [iL l] ∧ l.length ≤ 100000 ∧ q (iL (trimL l))
def ph__law_plus : Ph := fun ds q _ => ∃ a b : List Int, ds = [iL a, iL b] ∧ (a.length ≤ 40000 ∧ b.length ≤ 40000) ∧ q (iL (trimL (addL a b)))
def ph__law_scaled : Ph := fun ds q _ => ∃ (a : List Int) (c : Int) (B C : Nat), ds = [iL a, .int c] ∧ (a.length ≤ 90000 ∧ SzL B a ∧ c.natAbs < 2 ^ C ∧ C + B ≤ 900000) ∧ q (iL (trimL (scL c a)))
def ph__law_coefs : Ph := fun ds q _ => ds = [] ∧ ∀ l : List Int, l.length ≤ 7 → SzL 80 l → q (iL l)
theorem rangeD_nat (n : Nat) : rangeD 0 ((n : Int)).toNat = (List.range n).map fun i => Dt.int (i : Nat) := by
  unfold rangeD
  rw [Int.toNat_natCast]
  refine List.map_congr_left fun i _ => ?_
  rw [Int.zero_add]
/-- products -/
def mulL : List Int → List Int → List Int
  | [], _ => []
  | x :: a, b => addL (scL x b) (0 :: mulL a b)
def ph_times : Ph := fun ds q _ => ∃ (a b : List Int) (A B : Nat), ds = [iT a, iT b] ∧ (a.length ≤ 900 ∧ b.length ≤ 900 ∧ SzL A a ∧ SzL B b ∧ A + B ≤ 900000) ∧ q (iT (trimL (mulL a b)))
def ph__law_times : Ph := fun ds q _ => ∃ (a b : List Int) (A B : Nat), ds = [iL a, iL b] ∧ (a.length ≤ 900 ∧ b.length ≤ 900 ∧ SzL A a ∧ SzL B b ∧ A + B ≤ 900000) ∧ q (iL (trimL (mulL a b)))
def powT (a : List Int) : Nat → List Int
  | 0 => [1]
  | n + 1 => trimL (mulL (powT a n) a)
def ph_mul2 (C : Addr) : Ph := fun ds q _ => ∃ (a b : List Int) (d : Dt) (B : Nat), ds = [polD C a, d] ∧ Oth C d b ∧ (a.length ≤ 900 ∧ b.length ≤ 900 ∧ SzL B a ∧ SzL B b ∧ B ≤ 400000) ∧ q (polD C (trimL (mulL a b)))
abbrev ph_Poly___mul__ := ph_mul2
abbrev ph_Poly___rmul__ := ph_mul2
def ph_Poly___pow__ (C : Addr) : Ph := fun ds q _ => ∃ (a : List Int) (n B L : Nat), ds = [polD C a, .int (n : Int)] ∧ (SzL B a ∧ a.length ≤ L ∧ n * L ≤ 880 ∧ n ≤ 100 ∧ B ≤ 4000) ∧ q (polD C (powT a n))
/-! values -/
def tv (p q : Int) : List Int → Int
  | [] => 0
  | x :: r => tv p q r * p + x * q ^ r.length
theorem tv_snoc (p q x : Int) : ∀ l : List Int, tv p q (l ++ [x]) = tv p q l * q + x * p ^ l.length
  | [] => by simp [tv]
  | y :: l => by
    rw [List.cons_append]
    show tv p q (l ++ [x]) * p + y * q ^ (l ++ [x]).length = (tv p q l * p + y * q ^ l.length) * q + x * p ^ (l.length + 1)
    rw [tv_snoc p q x l, List.length_append, List.length_singleton, Int.pow_succ, Int.pow_succ]
    generalize tv p q l = t
    generalize q ^ l.length = u
    generalize p ^ l.length = v
    grind
def valR (l : List Int) (r : Int × Int) : Int × Int := mkR (tv r.1 r.2 l * r.2) (r.2 ^ l.length)
def ph_value_of : Ph := fun ds q _ => ∃ (l : List Int) (r : Int × Int) (A B : Nat), ds = [iT l, ratD r] ∧ (SzL A l ∧ SzR B r ∧ A + (B + 2) * (l.length + 1) ≤ 400000) ∧ q (ratD (tv r.1 r.2 l * r.2, r.2 ^ l.length))
def ph_Poly___call__ (C : Addr) : Ph := fun ds q _ => ∃ (l : List Int) (r : Int × Int) (A B : Nat), ds = [polD C l, ratD r] ∧ (SzL A l ∧ SzR B r ∧ 1 ≤ r.2 ∧ A + (B + 2) * (l.length + 1) ≤ 8000) ∧ q (ratD (valR l r))
def ph__law_value : Ph := fun ds q _ => ∃ (l : List Int) (r : Int × Int) (A B : Nat), ds = [iL l, ratD r] ∧ (SzL A l ∧ SzR B r ∧ 1 ≤ r.2 ∧ A + (B + 2) * (l.length + 1) ≤ 400000 ∧ Int.gcd (tv r.1 r.2 l * r.2) (r.2 ^ l.length) < 2 ^ 8999) ∧ q (ratD (valR l r))
/-! derivatives -/
def derL (a : List Int) : List Int := ((List.range a.length).map fun k => ((k : Nat) : Int) * cf a k).drop 1
theorem cut_from {xs : List Dt} {s : Nat} : cutD xs (some (s : Int)) none = xs.drop s := by
  unfold cutD
  rw [HT.sIx_none, HT.sIx_nat]
  by_cases h : s ≤ xs.length
  · rw [Nat.min_eq_left h, List.take_of_length_le (by rw [List.length_drop]; exact Nat.le_refl _)]
  · rw [Nat.min_eq_right (by omega), List.drop_length, List.drop_of_length_le (by omega), List.take_nil]
def ph_derived : Ph := fun ds q _ => ∃ (l : List Int) (B : Nat), ds = [iT l] ∧ (l.length ≤ 900 ∧ SzL B l ∧ B ≤ 800000) ∧ q (iT (trimL (derL l)))
def ph_Poly_derivative (C : Addr) : Ph := fun ds q _ => ∃ (l : List Int) (B : Nat), ds = [polD C l] ∧ (l.length ≤ 900 ∧ SzL B l ∧ B ≤ 800000) ∧ q (polD C (trimL (derL l)))
end VS
set_option Elab.async false
set_option linter.all false
set_option maxRecDepth 100000
/-! plain: choices and paths. -/
namespace VS
open PySem PySem.Spec L2
def bin : Nat → Nat → Nat
  | _, 0 => 1
  | 0, _ + 1 => 0
  | n + 1, k + 1 => bin n k + bin n (k + 1)
theorem bin_0 (n : Nat) : bin n 0 = 1 := by cases n <;> rfl
theorem bin_gt : ∀ {n k : Nat}, n < k → bin n k = 0
  | 0, k + 1, _ => rfl
  | n + 1, k + 1, h => by
    show bin n k + bin n (k + 1) = 0
    rw [bin_gt (by omega), bin_gt (by omega)]
theorem bin_le : ∀ n k : Nat, bin n k ≤ 2 ^ n
  | n, 0 => by rw [bin_0]; exact Nat.one_le_two_pow
  | 0, k + 1 => Nat.zero_le _
  | n + 1, k + 1 => by
    have h1 := bin_le n k
    have h2 := bin_le n (k + 1)
    show bin n k + bin n (k + 1) ≤ 2 ^ (n + 1)
    rw [Nat.pow_succ]; omega
def sg (k : Nat) : Int := 1 - 2 * ((k : Int) % 2)
theorem sg_succ (k : Nat) : sg (k + 1) = - sg k := by unfold sg; omega
theorem sg_abs (k : Nat) : sg k = 1 ∨ sg k = -1 := by unfold sg; omega
def sgnL (l : Nat) : List Int := (List.range (l + 1)).map fun k => (bin l k : Int) * sg k
def pathL (w l : Nat) : List Int := List.replicate w 0 ++ sgnL l
theorem cf_map {n : Nat} {f : Nat → Int} (i : Nat) : cf ((List.range n).map f) i = if i < n then f i else 0 := by
  unfold cf
  by_cases h : i < n
  · rw [if_pos h, List.getD_eq_getElem?_getD, List.getElem?_map, List.getElem?_range h]; rfl
  · rw [if_neg h, List.getD_eq_getElem?_getD, List.getElem?_map, List.getElem?_eq_none (by rw [List.length_range]; omega)]; rfl
theorem cf_sgn (l i : Nat) : cf (sgnL l) i = (bin l i : Int) * sg i := by
  unfold sgnL
  rw [cf_map]
  by_cases h : i < l + 1
  · rw [if_pos h]
  · rw [if_neg h, bin_gt (by omega)]; simp
theorem len_sgn (l : Nat) : (sgnL l).length = l + 1 := by simp [sgnL]
theorem len_path (w l : Nat) : (pathL w l).length = w + l + 1 := by unfold pathL; rw [List.length_append, List.length_replicate, len_sgn]; omega
def pthT (w : Nat) : Nat → List Int
  | 0 => powT [0, 1] w
  | l + 1 => trimL (mulL (pthT w l) [1, -1])
theorem cf_ext {a b : List Int} (hl : a.length = b.length) (h : ∀ i, cf a i = cf b i) : a = b := List.ext_getElem? fun i => by
  by_cases hi : i < a.length
  · rw [cf_lt hi, cf_lt (by omega), h]
  · rw [List.getElem?_eq_none (by omega), List.getElem?_eq_none (by omega)]
theorem tv_add (p q : Int) : ∀ (a b : List Int), a.length = b.length → tv p q (addL a b) = tv p q a + tv p q b
  | [], [], _ => rfl
  | x :: a, y :: b, h => by
    have hl : a.length = b.length := by simpa using h
    show tv p q (addL a b) * p + (x + y) * q ^ (addL a b).length = (tv p q a * p + x * q ^ a.length) + (tv p q b * p + y * q ^ b.length)
    rw [tv_add p q a b hl, len_add, ← hl, Nat.max_self]
    generalize tv p q a = s
    generalize tv p q b = t
    generalize q ^ a.length = u
    grind
theorem tv_sc (p q c : Int) : ∀ (a : List Int), tv p q (scL c a) = c * tv p q a
  | [] => by show (0 : Int) = c * 0; simp
  | x :: a => by
    show tv p q (scL c a) * p + c * x * q ^ (scL c a).length = c * (tv p q a * p + x * q ^ a.length)
    rw [tv_sc p q c a, len_sc]
    generalize tv p q a = s
    generalize q ^ a.length = u
    grind
theorem sgn_succ (l : Nat) : sgnL (l + 1) = addL (sgnL l ++ [0]) (scL (-1) (0 :: sgnL l)) := by
  refine cf_ext ?_ fun i => ?_
  · rw [len_add, len_sc, List.length_append, len_sgn, List.length_cons (a := (0 : Int)) (as := sgnL l), len_sgn]; show l + 1 + 1 = max (l + 1 + 1) (l + 1 + 1); omega
  · rw [cf_add, cf_sc, cf_app, cf_sgn, cf_sgn, len_sgn]
    have h0 : (if i < l + 1 then (bin l i : Int) * sg i else cf [0] (i - (l + 1))) = (bin l i : Int) * sg i := by
      by_cases h : i < l + 1
      · rw [if_pos h]
      · rw [if_neg h, bin_gt (by omega), show ([0] : List Int) = List.replicate 1 0 from rfl, rep_zero]; simp
    rw [h0]
    cases i with
    | zero => rw [bin_0, bin_0]; rfl
    | succ j =>
      rw [show cf (0 :: sgnL l) (j + 1) = cf (sgnL l) j from by simp [cf], cf_sgn, sg_succ]
      show ((bin l j + bin l (j + 1) : Nat) : Int) * _ = _
      rw [Int.natCast_add]
      generalize (bin l j : Int) = x
      generalize (bin l (j + 1) : Int) = y
      generalize sg j = z
      grind
theorem tv_sgn (p q : Int) : ∀ l : Nat, tv p q (sgnL l) = (q - p) ^ l
  | 0 => by show 0 * p + 1 * q ^ 0 = _; simp
  | l + 1 => by
    rw [sgn_succ, tv_add _ _ _ _ (by rw [len_sc, List.length_append, List.length_cons]; rfl), tv_sc, tv_snoc, tv_sgn p q l]
    show _ + -1 * (tv p q (sgnL l) * p + 0 * _) = _
    rw [tv_sgn p q l, Int.pow_succ]
    generalize (q - p) ^ l = s
    grind
theorem tv_path (p q : Int) : ∀ w l : Nat, tv p q (pathL w l) = p ^ w * (q - p) ^ l
  | 0, l => by show tv p q (sgnL l) = _; rw [tv_sgn]; simp
  | w + 1, l => by
    show tv p q (pathL w l) * p + 0 * _ = _
    rw [tv_path p q w l, Int.pow_succ]
    generalize (q - p) ^ l = s
    generalize p ^ w = t
    grind
def tot (n : Nat) : Nat → List Int
  | 0 => []
  | k + 1 => trimL (addL (tot n k) (trimL (mulL (pathL k (n - k)) (trimL [(bin n k : Int)]))))
def orL (n : Nat) : List Int := (List.range (n + 1)).map fun k => (bin n k : Int)
theorem sz_sgn (l : Nat) : SzL (l + 1) (sgnL l) := fun x hx => by
  obtain ⟨k, _, rfl⟩ := List.mem_map.mp hx
  have := bin_le l k
  rw [Nat.pow_succ]
  have h2 : 0 < 2 ^ l := Nat.two_pow_pos l
  rcases sg_abs k with h | h <;> rw [h] <;> omega
theorem sz_path (w l : Nat) : SzL (l + 1) (pathL w l) := fun x hx => by
  rcases List.mem_append.mp hx with h | h
  · rw [(List.mem_replicate.mp h).2]; exact Nat.two_pow_pos _
  · exact sz_sgn l x h
def ph_choose : Ph := fun ds q _ => ∃ n k : Nat, ds = [.int (n : Int), .int (k : Int)] ∧ (k ≤ n ∧ n ≤ 1000) ∧ q (.int (bin n k : Int))
def ph_path_coefs : Ph := fun ds q _ => ∃ w l : Nat, ds = [.int (w : Int), .int (l : Int)] ∧ (w ≤ 1000 ∧ l ≤ 1000) ∧ q (iT (pathL w l))
def ph_Poly_path (C : Addr) : Ph := fun ds q _ => ∃ w l : Nat, ds = [.adr C, .int (w : Int), .int (l : Int)] ∧ (w ≤ 1000 ∧ l ≤ 1000) ∧ q (polD C (pathL w l))
def ph_Poly_degree (C : Addr) : Ph := fun ds q _ => ∃ l : List Int, ds = [polD C l] ∧ l.length ≤ 100000 ∧ q (.int ((l.length : Int) - 1))
def ph__law_path : Ph := fun ds q _ => ∃ w l : Nat, ds = [.int (w : Int), .int (l : Int)] ∧ (w ≤ 100 ∧ l ≤ 100) ∧ q (iL (pathL w l))
def ph__law_orders : Ph := fun ds q _ => ∃ n : Nat, ds = [.int (n : Int)] ∧ n ≤ 100 ∧ q (iL (orL n))
end VS
set_option Elab.async false
set_option linter.all false
set_option maxRecDepth 100000
/-! plain: exact quotients. -/
namespace VS
open PySem PySem.Spec L2
def IsQ (a b q : List Int) : Prop := ∀ i, cf a i = cf (mulL q b) i
/-! sizes in the division -/
theorem cf_sz {l : List Int} {M : Nat} (h : SzL M l) (i : Nat) : (cf l i).natAbs < 2 ^ M := by
  by_cases hi : i < l.length
  · exact h _ (List.mem_of_getElem? (cf_lt hi))
  · rw [cf_ge (by omega)]
    exact Nat.pow_pos (by decide)
def ph_quotient : Ph := fun ds q _ => ∃ (a b : List Int) (A B : Nat), ds = [iT a, iT b] ∧ (a.length ≤ 900 ∧ b.length ≤ 900 ∧ Tr b ∧ SzL A a ∧ SzL B b ∧ B ≤ 8000 ∧ A + (a.length + 2) * (B + 1) ≤ 800000) ∧ (∀ z, b ≠ [] → Tr z → IsQ a b z → q (iT z)) ∧ ((b = [] ∨ ∀ z, Tr z → ¬ IsQ a b z) → q .non)
def ph_Poly___floordiv__ (C N : Addr) : Ph := fun ds q x => ∃ (a b : List Int) (d : Dt) (A B : Nat), ds = [polD C a, d] ∧ Oth C d b ∧ (a.length ≤ 900 ∧ b.length ≤ 900 ∧ Tr b ∧ SzL A a ∧ SzL B b ∧ B ≤ 8000 ∧ A + (a.length + 2) * (B + 1) ≤ 800000) ∧ (∀ z, b ≠ [] → Tr z → IsQ a b z → q (polD C z)) ∧ ((b = [] ∨ ∀ z, Tr z → ¬ IsQ a b z) → x N [] [])
/-- all that a division wants -/
def QOk (a b : List Int) : Prop := ∃ A B, a.length ≤ 900 ∧ b.length ≤ 900 ∧ Tr b ∧ SzL A a ∧ SzL B b ∧ B ≤ 8000 ∧ A + (a.length + 2) * (B + 1) ≤ 800000
theorem QOk.of {a b : List Int} {A B : Nat} (h1 : a.length ≤ 100) (h2 : b.length ≤ 100) (h3 : Tr b) (h4 : SzL A a) (h5 : SzL B b) (hA : A ≤ 4000) (hB : B ≤ 4000) : QOk a b := by
  refine ⟨A, B, by omega, by omega, h3, h4, h5, by omega, ?_⟩
  have h : (a.length + 2) * (B + 1) ≤ 102 * 4001 := Nat.mul_le_mul (by omega) (by omega)
  omega
/-! what the law of quotients asks -/
def ph__law_inexact (C : Addr) : Ph := fun ds q _ => ∃ (a b : List Int) (d : Dt), ds = [polD C a, d] ∧ Oth C d b ∧ (QOk a b ∧ (b = [] ∨ ∀ z, Tr z → ¬ IsQ a b z)) ∧ q (.bl true)
end VS
set_option Elab.async false
set_option linter.all false
set_option maxRecDepth 100000
/-! plain: sign rows. -/
namespace VS
open PySem PySem.Spec L2
def tp (a E C : List Int) : Nat → List Int
  | 0 => [cf a (a.length - 1)]
  | j + 1 => trimL (addL (trimL (mulL (tp a E C j) E)) (trimL (scL (cf a (a.length - 2 - j)) (powT C (j + 1)))))
def tl (a E C : List Int) : Nat → List Int
  | 0 => []
  | j + 1 => trimL (addL (tl a E C j) (trimL (scL (cf a (a.length - 1 - j)) (trimL (mulL (powT E (a.length - 1 - j)) (powT C j))))))
def comR (lo hi : Int × Int) : Int := lo.2 * hi.2 / (Int.gcd lo.2 hi.2 : Int)
def endL (lo hi : Int × Int) : List Int := [lo.1 * (comR lo hi / lo.2), hi.1 * (comR lo hi / hi.2)]
def comL (lo hi : Int × Int) : List Int := [comR lo hi, comR lo hi]
def srow (a : List Int) (lo hi : Int × Int) : List Int := if a = [] then [] else padL (tp a (endL lo hi) (comL lo hi) (a.length - 1)) (a.length : Int)
/-- what is wanted of a row and a stretch -/
def SrOk (a : List Int) (lo hi : Int × Int) : Prop := ∃ A B, Tr a ∧ a.length ≤ 60 ∧ SzL A a ∧ SzR B lo ∧ SzR B hi ∧ 1 ≤ lo.2 ∧ 1 ≤ hi.2 ∧ A ≤ 4100 ∧ (B ≤ 2000 ∨ a.length ≤ 25 ∧ B ≤ 4400)
def ph_sign_row_of : Ph := fun ds q _ => ∃ (a : List Int) (lo hi : Int × Int), ds = [iT a, ratD lo, ratD hi] ∧ SrOk a lo hi ∧ q (iL (srow a lo hi))
def ph__law_signs : Ph := fun ds q _ => ∃ (a : List Int) (lo hi : Int × Int), ds = [iL a, ratD lo, ratD hi] ∧ SrOk a lo hi ∧ q (iL (srow a lo hi))
def ph_check_stretch : Ph := fun ds q _ => ∃ (lo hi : Int × Int) (B : Nat), ds = [ratD lo, ratD hi] ∧ (SzR B lo ∧ SzR B hi ∧ B ≤ 100000 ∧ lessR lo hi = true) ∧ q .non
def ph_sign_row (C : Addr) : Ph := fun ds q _ => ∃ (a : List Int) (lo hi : Int × Int), ds = [polD C a, ratD lo, ratD hi] ∧ (SrOk a lo hi ∧ lessR lo hi = true) ∧ q (iL (srow a lo hi))
/-! stretches of the laws -/
def StOk (lo hi : Int × Int) : Prop := IsR lo ∧ IsR hi ∧ SzR 60 lo ∧ SzR 60 hi ∧ lessR lo hi = true
def ph_strt : Ph := fun ds q _ => ∃ m : Int, ds = [.int m] ∧ (0 < m ∧ m ≤ 10 ^ 12) ∧ ∀ lo hi : Int × Int, StOk lo hi → q (.tup [ratD lo, ratD hi])
end VS
set_option Elab.async false
set_option linter.all false
set_option maxRecDepth 100000
/-! own classes: len, repr, [], != ; text.join. -/
namespace VS
open PySem PySem.Spec L2
section
open PySem.W (InstAt Looks)
variable {prog : Program} {w : World} {A : Around} {E : Value → Shared → Prop} {s : Shared} {K : PySem.W.Frag} {x C f : Addr} {ox : Obj} {od : Option Obj}
end
section
variable {X : Cx} {R : Reg} {G : List Sl} {pos : Pos} {k : Kt}
/-- what a class tells of != -/
structure NeC (K : PySem.W.Frag) (C : Addr) : Prop where
  ne : PySem.W.findIn K (.ref C) "__ne__" = some (some (.builtin "object.__ne__"))
  sub : PySem.W.subIn K (.ref C) (.type "object") = some true
end
end VS
set_option Elab.async false
set_option linter.all false
set_option maxRecDepth 100000
/-! own classes: <=, >= , also with an int on the left -/
namespace VS
open PySem PySem.Spec L2
section
open PySem.W (InstAt Looks)
variable {prog : Program} {w : World} {A : Around} {E : Value → Shared → Prop} {s : Shared} {K : PySem.W.Frag} {x C f : Addr} {ox : Obj} {od : Option Obj}
end
section
variable {X : Cx} {R : Reg} {G : List Sl} {pos : Pos} {k : Kt}
/-- n op p -/
structure IntCmp (op : CmpOp) : Prop where
  ex : ∃ (id fn : String) (o : Int → Int → Sem Fin), Slot "int" (cmpInfo op).2.1 id ∧ entryFor table id = some (Builtin.Int.intBinary fn o) ∧ ∀ a b : Value, argsOk id ⟨[a, b], []⟩
end
end VS
set_option Elab.async false
set_option linter.all false
set_option maxRecDepth 100000
/-! plain: polynomials as values, shown. -/
namespace VS
open PySem PySem.Spec L2
def sI (x : Int) : Str := Str.ofString (toString x)
def joinI (a : List Int) : Str := Txt.join (Str.ofString ", ") (a.map sI)
def shown (a : List Int) : Str := Str.ofString "Poly(" ++ joinI a ++ Str.ofString ")"
def ph_Poly___len__ (C : Addr) : Ph := fun ds q _ => ∃ a : List Int, ds = [polD C a] ∧ q (.int (a.length : Int))
def ph_Poly___getitem__ (C : Addr) : Ph := fun ds q _ => ∃ (a : List Int) (n : Nat), ds = [polD C a, .int (n : Int)] ∧ q (.int (cf a n))
def ph_Poly___repr__ (C : Addr) : Ph := fun ds q _ => ∃ (a : List Int) (B : Nat), ds = [polD C a] ∧ (SzL B a ∧ B ≤ 1900 ∧ a.length ≤ 100) ∧ q (.str (shown a))
def ph__law_shown : Ph := fun ds q _ => ∃ (a : List Int) (B : Nat), ds = [iL a] ∧ (SzL B a ∧ B ≤ 1900 ∧ a.length ≤ 100) ∧ q (.str (shown a))
/-- data that are no object -/
def plainD (d : Dt) : Prop := (∃ i, d = .int i) ∨ (∃ xs, d = .tup xs) ∨ (∃ xs, d = .lst xs) ∨ ∃ z, d = .str z
def ph_Poly___eq__ (C : Addr) : Ph := fun ds q _ => ∃ (a : List Int) (d : Dt), ds = [polD C a, d] ∧ ((∃ b, d = polD C b ∧ q (.bl (decide (a = b)))) ∨ (plainD d ∧ q (.bl false)))
end VS
set_option Elab.async false
set_option linter.all false
set_option maxRecDepth 100000
/-! dicts whose keys are tuples. -/
namespace VS
open PySem PySem.Spec L2
def keyD : Key → Dt
  | .inl i => .int i
  | .inr z => .str z
theorem rpL_keys {K : PySem.W.Frag} {F : Hp} : ∀ ks : List Key, RpL K F (ks.map keyD) (ks.map kV)
  | [] => .nil
  | .inl i :: ks => .cons (rp_int.mpr rfl) (rpL_keys ks)
  | .inr z :: ks => .cons (rp_str.mpr rfl) (rpL_keys ks)
theorem rpL_keys_of {K : PySem.W.Frag} {F : Hp} : ∀ {ks : List Key} {vs : List V}, RpL K F (ks.map keyD) vs → vs = ks.map kV
  | [], _, h => h.of_nil
  | .inl i :: ks, _, h => by
    obtain ⟨v, r, rfl, h1, h2⟩ := h.of_cons
    rw [rp_int.mp h1, rpL_keys_of h2]
    rfl
  | .inr z :: ks, _, h => by
    obtain ⟨v, r, rfl, h1, h2⟩ := h.of_cons
    rw [rp_str.mp h1, rpL_keys_of h2]
    rfl
theorem rp_key_tup {K : PySem.W.Frag} {F : Hp} {ks : List Key} {v : V} (h : Rp K F (.key ks) v) : Rp K F (.tup (ks.map keyD)) v := by
  obtain ⟨a, e, h⟩ := rp_key.mp h
  exact rp_tup.mpr ⟨a, _, e, .inl (.inl h), rpL_keys ks⟩
/-- what a dict holds -/
def lookT : List (List Key) → List Dt → List Key → Option Dt
  | k :: ks, x :: xs, q => if k = q then some x else lookT ks xs q
  | _, _, _ => none
theorem look_val {K : PySem.W.Frag} {F : Hp} {q : List Key} : ∀ {ks : List (List Key)} {xs : List Dt} {vs : List V}, RpL K F xs vs → ks.length = vs.length →
    (lookT ks xs q = none → L2.valV (ks.zip vs) q = none) ∧ ∀ d, lookT ks xs q = some d → ∃ v, L2.valV (ks.zip vs) q = some v ∧ Rp K F d v
  | [], xs, vs, r, hl => ⟨fun _ => rfl, fun d h => by cases xs <;> cases h⟩
  | k :: ks, [], vs, r, hl => by
    have := r.of_nil
    subst this
    simp at hl
  | k :: ks, x :: xs, vs, r, hl => by
    obtain ⟨v, t, rfl, r1, r2⟩ := r.of_cons
    have ih := look_val (q := q) (ks := ks) r2 (by simpa using hl)
    unfold lookT
    by_cases h : k = q
    · rw [if_pos h]
      refine ⟨fun z => (nomatch z), fun d e => ⟨v, ?_, by cases e; exact r1⟩⟩
      unfold L2.valV
      rw [List.zip_cons_cons, List.find?_cons_of_pos (by simpa using h)]
      rfl
    · rw [if_neg h]
      have e : L2.valV ((k :: ks).zip (v :: t)) q = L2.valV (ks.zip t) q := by
        unfold L2.valV
        rw [List.zip_cons_cons, List.find?_cons_of_neg (by simpa using h)]
      rw [e]
      exact ih
def repV {α : Type} (q : List Key) (y : α) : List (List Key) → List α → List α
  | k :: ks, x :: xs => (if k = q then y else x) :: repV q y ks xs
  | _, xs => xs
theorem rep_len {α : Type} (q : List Key) (y : α) : ∀ (ks : List (List Key)) (xs : List α), (repV q y ks xs).length = xs.length
  | [], xs => by simp [repV]
  | k :: ks, [] => rfl
  | k :: ks, x :: xs => by simp [repV, rep_len q y ks xs]
theorem rep_rp {K : PySem.W.Frag} {F : Hp} {q : List Key} {d : Dt} {v : V} (rd : Rp K F d v) : ∀ {ks : List (List Key)} {xs : List Dt} {vs : List V}, RpL K F xs vs → RpL K F (repV q d ks xs) (repV q v ks vs)
  | [], xs, vs, r => by simpa [repV] using r
  | k :: ks, [], vs, r => by rw [r.of_nil]; exact .nil
  | k :: ks, x :: xs, vs, r => by
    obtain ⟨w, t, rfl, r1, r2⟩ := r.of_cons
    show RpL K F ((if k = q then d else x) :: repV q d ks xs) ((if k = q then v else w) :: repV q v ks t)
    refine .cons ?_ (rep_rp rd r2)
    by_cases h : k = q
    · rw [if_pos h, if_pos h]; exact rd
    · rw [if_neg h, if_neg h]; exact r1
theorem rep_zip (q : List Key) (v : V) : ∀ (ks : List (List Key)) (vs : List V), (ks.zip vs).map (fun kv => if kv.1 = q then (kv.1, v) else kv) = ks.zip (repV q v ks vs)
  | [], vs => by simp
  | k :: ks, [] => by simp [repV]
  | k :: ks, w :: vs => by
    show (if k = q then (k, v) else (k, w)) :: ((ks.zip vs).map fun kv => if kv.1 = q then (kv.1, v) else kv) = (k, if k = q then v else w) :: ks.zip (repV q v ks vs)
    rw [rep_zip q v ks vs]
    by_cases h : k = q
    · rw [if_pos h, if_pos h]
    · rw [if_neg h, if_neg h]
def hasT (ks : List (List Key)) (q : List Key) : Bool := ks.any fun k => decide (k = q)
def putT (ks : List (List Key)) (q : List Key) : List (List Key) := if hasT ks q = true then ks else ks ++ [q]
def putX (ks : List (List Key)) (xs : List Dt) (q : List Key) (d : Dt) : List Dt := if hasT ks q = true then repV q d ks xs else xs ++ [d]
theorem put_zipT {K : PySem.W.Frag} {F : Hp} {ks : List (List Key)} {xs : List Dt} {vs : List V} {q : List Key} {d : Dt} {v : V} (r : RpL K F xs vs) (hl : ks.length = vs.length) (rd : Rp K F d v) :
    ∃ ws, L2.putK (ks.zip vs) q v = (putT ks q).zip ws ∧ (putT ks q).length = ws.length ∧ RpL K F (putX ks xs q d) ws := by
  have ha : ((ks.zip vs).any fun kv => decide (kv.1 = q)) = hasT ks q := by
    unfold hasT
    rw [Bool.eq_iff_iff, List.any_eq_true, List.any_eq_true]
    constructor
    · rintro ⟨kv, h1, h2⟩
      exact ⟨kv.1, (List.of_mem_zip h1).1, h2⟩
    · rintro ⟨z, h, h2⟩
      obtain ⟨i, hi, e⟩ := List.mem_iff_getElem.mp h
      have hz : i < (ks.zip vs).length := by rw [List.length_zip]; omega
      exact ⟨(ks.zip vs)[i], List.getElem_mem hz, by rw [List.getElem_zip, e]; exact h2⟩
  unfold L2.putK putT putX
  rw [ha]
  by_cases h : hasT ks q = true
  · rw [if_pos h, if_pos h, if_pos h, rep_zip]
    exact ⟨_, rfl, by rw [rep_len]; exact hl, rep_rp rd r⟩
  · rw [if_neg h, if_neg h, if_neg h]
    exact ⟨vs ++ [v], by rw [List.zip_append hl]; rfl, by simp [hl], r.append (.cons rd .nil)⟩
section
variable {X : Cx} {R : Reg} {G : List Sl} {pos : Pos} {k : Kt}
/-- a key read as a tuple -/
theorem e_asT {e : Expr} {P : Dt → Prop} (h : E X R G e fun d => ∃ ks, d = .key ks ∧ P (.tup (ks.map keyD))) : E X R G e P := fun σ F H Q ty c => h σ F H Q ty fun v F' H' d ex r ⟨ks, ed, p⟩ => by
  subst ed
  exact c v F' H' _ ex (rp_key_tup r) p
/-- (e, ..), a key -/
theorem e_key {es : List Expr} {x1} {P : Dt → Prop} (h : EA X R G es fun ds => ∃ ks : List Key, ds = ks.map keyD ∧ ds.length ≤ 100000 ∧ P (.key ks)) : E X R G (.Tuple es x1 pos) P := fun σ F H Q ty c =>
  tOf.of (pe_tup pa_w) (h σ F H _ ty fun vs F1 H1 ds ex1 r1 ⟨ks, e, hl, p⟩ => by
    subst e
    have ev := rpL_keys_of r1
    refine ⟨by rw [← r1.length]; exact Nat.le_trans hl (by decide), fun q hq => c _ _ _ _ (ex1.trans (ex1.wf.made hq)) (rp_key.mpr ⟨q, rfl, ?_⟩) p⟩
    rw [upd_same, ev])
theorem dget_of {F H : Hp} {ks : List (List Key)} {xs : List Dt} {q : List Key} {v y : V} (s : Same F H) (r : Rp X.K F (.dT ks xs) v) (ry : Rp X.K F (.key q) y) : ∃ a o, v = .ref a ∧ L2.DGet H a y o ∧ L2.IsD H a ∧ (lookT ks xs q = none → o = none) ∧ ∀ d, lookT ks xs q = some d → ∃ w, o = some w ∧ Rp X.K F d w := by
  obtain ⟨a, vs, e, h1, hl, rl⟩ := rp_dT.mp r
  obtain ⟨b, eb, hb⟩ := rp_key.mp ry
  obtain ⟨n1, n2⟩ := look_val (q := q) rl hl
  exact ⟨a, _, e, .inr ⟨_, q, b, rd_mono s h1, eb, s _ _ hb, rfl⟩, .inr ⟨_, rd_mono s h1⟩, n1, n2⟩
/-- d[q] -/
theorem e_dget {o i : Expr} {P : Dt → Prop} (hu : X.A.units + 1 < cLine) (h : E X R G o fun d => ∃ ks xs, d = .dT ks xs ∧ E X R G i fun d' => ∃ q x, d' = .key q ∧ lookT ks xs q = some x ∧ P x) (hs : NoSl i := by intro _ _; rfl) : E X R G (.Subscript o i pos) P := fun σ F H Q ty c =>
  tOf.of (pe_dget hu pe_w pe_w hs) (h σ F H _ ty fun v F1 H1 d ex r ⟨ks, xs, e, h2⟩ => by
    subst e
    refine h2 σ F1 H1 _ (ty.ext ex) fun y F2 H2 d2 ex2 r2 ⟨q, x, e2, hx, p⟩ => ?_
    subst e2
    obtain ⟨a, ov, ea, g, _, _, n2⟩ := dget_of ex2.wf.fh (r.mono ex2.ff) r2
    obtain ⟨w, ew, rw'⟩ := n2 x hx
    subst ew
    exact ⟨a, w, ea, g, c w F2 H2 x (ex.trans ex2) rw' p⟩)
/-- d.get(q, x) -/
theorem e_dget2 {o e f : Expr} {apos : Pos} {P : Dt → Prop} (hu : X.A.units + 1 < cLine) (h : E X R G o fun d => ∃ ks xs, d = .dT ks xs ∧ E X R G e fun d' => ∃ q, d' = .key q ∧ E X R G f fun d3 => P ((lookT ks xs q).getD d3))
    (m : M2 X o "get" apos e f pos := by exact ⟨rfl, rfl, rfl, rfl⟩) : E X R G (.Call (.Attribute o "get" apos) [e, f] [] pos) P := fun σ F H Q ty c =>
  tOf.of (pe_dget2 hu pe_w pe_w pe_w m) (h σ F H _ ty fun v F1 H1 d ex r ⟨ks, xs, e, h2⟩ => by
    subst e
    have r0 := r
    obtain ⟨a, vs, ea, h1, _, _⟩ := rp_dT.mp r
    refine ⟨a, ea, .inr ⟨_, rd_mono ex.wf.fh h1⟩, h2 σ F1 H1 _ (ty.ext ex) fun y F2 H2 d2 ex2 r2 ⟨q, e2, h3⟩ => ?_⟩
    subst e2
    refine h3 σ F2 H2 _ (ty.ext (ex.trans ex2)) fun z F3 H3 d3 ex3 r3 p => ?_
    obtain ⟨a', ov, ea', g, _, n1, n2⟩ := dget_of ex3.wf.fh (r0.mono (ex2.ff.trans ex3.ff)) (r2.mono ex3.ff)
    rw [ea] at ea'
    cases ea'
    refine ⟨ov, g, ?_⟩
    cases hx : lookT ks xs q with
    | none =>
      rw [hx] at p
      rw [n1 hx]
      exact c z F3 H3 d3 ((ex.trans ex2).trans ex3) r3 p
    | some x =>
      rw [hx] at p
      obtain ⟨w, ew, rw'⟩ := n2 x hx
      subst ew
      exact c w F3 H3 x ((ex.trans ex2).trans ex3) rw' p)
/-- q in d, q not in d -/
theorem e_din {i o : Expr} {P : Dt → Prop} (hu : X.A.units + 1 < cLine) (h : E X R G i fun d' => ∃ q, d' = .key q ∧ E X R G o fun d => ∃ ks xs, d = .dT ks xs ∧ P (.bl (lookT ks xs q).isSome)) (hb : behindInMarks .In o = false := by first | exact nobehind _ (by decide) (by decide) | rfl) : E X R G (.Compare i [.In] [o] pos) P := fun σ F H Q ty c =>
  tOf.of (pe_cmp (pc_din hu pe_w pe_w) hb) (h σ F H _ ty fun y F1 H1 d ex r ⟨q, e, h2⟩ => by
    subst e
    refine h2 σ F1 H1 _ (ty.ext ex) fun v F2 H2 d2 ex2 r2 ⟨ks, xs, e2, p⟩ => ?_
    subst e2
    obtain ⟨a, ov, ea, g, _, n1, n2⟩ := dget_of ex2.wf.fh r2 (r.mono ex2.ff)
    have e : ov.isSome = (lookT ks xs q).isSome := by
      cases hx : lookT ks xs q with
      | none => rw [n1 hx]; rfl
      | some x => obtain ⟨w, ew, _⟩ := n2 x hx; rw [ew]; rfl
    refine ⟨a, ov, ea, g, ?_⟩
    rw [e]
    exact c _ F2 H2 _ (ex.trans ex2) (rp_bl.mpr rfl) p)
theorem e_dnotin {i o : Expr} {P : Dt → Prop} (hu : X.A.units + 1 < cLine) (h : E X R G i fun d' => ∃ q, d' = .key q ∧ E X R G o fun d => ∃ ks xs, d = .dT ks xs ∧ P (.bl (!(lookT ks xs q).isSome))) (hb : behindInMarks .NotIn o = false := by first | exact nobehind _ (by decide) (by decide) | rfl) : E X R G (.Compare i [.NotIn] [o] pos) P := fun σ F H Q ty c =>
  tOf.of (pe_cmp (pc_dnotin hu pe_w pe_w) hb) (h σ F H _ ty fun y F1 H1 d ex r ⟨q, e, h2⟩ => by
    subst e
    refine h2 σ F1 H1 _ (ty.ext ex) fun v F2 H2 d2 ex2 r2 ⟨ks, xs, e2, p⟩ => ?_
    subst e2
    obtain ⟨a, ov, ea, g, _, n1, n2⟩ := dget_of ex2.wf.fh r2 (r.mono ex2.ff)
    have e : ov.isSome = (lookT ks xs q).isSome := by
      cases hx : lookT ks xs q with
      | none => rw [n1 hx]; rfl
      | some x => obtain ⟨w, ew, _⟩ := n2 x hx; rw [ew]; rfl
    refine ⟨a, ov, ea, g, ?_⟩
    rw [e]
    exact c _ F2 H2 _ (ex.trans ex2) (rp_bl.mpr rfl) p)
/-- the same as a test -/
theorem t_din {i o : Expr} {P : Bool → Prop} (hu : X.A.units + 1 < cLine) (h : E X R G i fun d' => ∃ q, d' = .key q ∧ E X R G o fun d => ∃ ks xs, d = .dT ks xs ∧ P (lookT ks xs q).isSome) (hb : behindInMarks .In o = false := by first | exact nobehind _ (by decide) (by decide) | rfl) : T X R G (.Compare i [.In] [o] pos) P := fun σ F H Q ty c =>
  ttOf.of (pt_cmp (pc_din hu pe_w pe_w) hb) (h σ F H _ ty fun y F1 H1 d ex r ⟨q, e, h2⟩ => by
    subst e
    refine h2 σ F1 H1 _ (ty.ext ex) fun v F2 H2 d2 ex2 r2 ⟨ks, xs, e2, p⟩ => ?_
    subst e2
    obtain ⟨a, ov, ea, g, _, n1, n2⟩ := dget_of ex2.wf.fh r2 (r.mono ex2.ff)
    have e : ov.isSome = (lookT ks xs q).isSome := by
      cases hx : lookT ks xs q with
      | none => rw [n1 hx]; rfl
      | some x => obtain ⟨w, ew, _⟩ := n2 x hx; rw [ew]; rfl
    refine ⟨a, ov, ea, g, _, rfl, ?_⟩
    rw [e]
    exact c _ F2 H2 (ex.trans ex2) p)
/-- {}, one's own -/
theorem ew_dnew {P : Dt → Prop} (p : P (.dT [] [])) : EW X R G (.Dict [] [] pos) P := fun σ F H Q ty c =>
  tOf.of pe_dnewT fun q hq => c q F _ (.dT [] []) (ty.wf.own hq) hq (ty.wf.new hq) (ty.wf.fh.free hq) ⟨[], upd_same, rfl, .nil⟩ p
/-- x[q] = e, x one's own dict -/
theorem s_dput (i : Nat) {x : Str} {e qe : Expr} {p pos' : Pos} {ks : List (List Key)} {xs : List Dt} (hu : X.A.units + 1 < cLine) (hg : G[i]? = some (.ow (.dT ks xs))) (hN : X.N[i]? = some x) (hv : Vis X.env.scope x) (hl : ks.length < 100000)
    (h : E X R G e fun d => E X R G qe fun d' => ∃ q, d' = .key q ∧ k.nx (G.set i (.ow (.dT (putT ks q) (putX ks xs q d)))))
    (hd : (x == ("__debug__" : Str)) = false := by decide) (hcd : (x == ("__classdict__" : Str)) = false := by decide) (hs : swapsWith e (some (.Subscript (.Name x p) qe pos')) pos.line X.env = pure false := by rfl) : S1 X R (.Assign [.Subscript (.Name x p) qe pos'] e pos) G k := fun F0 H0 σ F H D ty b c =>
  s1Of.of (ps_dput hu (pe_var hN hv hd hcd) pe_w pe_w hs) (h σ F H _ ty fun y F1 H1 d ex r h2 => by
    have ty1 := ty.ext ex
    obtain ⟨o, ho, fo, nM, vs, h1, hl1, rl⟩ := ty1.own hg
    refine ⟨.ref o, by rw [ho], h2 σ F1 H1 _ ty1 fun z F2 H2 d2 ex2 r2 ⟨q, e2, hk⟩ => ?_⟩
    subst e2
    have ty2 := ty1.ext ex2
    obtain ⟨o', ho', fo', nM', vs', h1', hl1', rl'⟩ := ty2.own hg
    rw [ho] at ho'
    cases ho'
    obtain ⟨bq, eb, hb⟩ := rp_key.mp r2
    subst eb
    refine ⟨o, _, rfl, L2.DPut.t h1' (ex2.wf.fh _ _ hb) (by rw [List.length_zip]; exact Nat.lt_of_le_of_lt (Nat.min_le_left _ _) (Nat.lt_of_lt_of_le hl (by decide))), ?_⟩
    obtain ⟨ws, e1, e3, e4⟩ := put_zipT (q := q) (d := d) (v := y) rl' hl1' (r.mono ex2.ff)
    have ty3 := ty2.mut (d' := .dT (putT ks q) (putX ks xs q d)) (u := .dT (L2.putK (ks.zip vs') q y)) hg ho ⟨ws, by rw [upd_same, e1], e3, e4⟩
    exact c.nx _ _ _ _ hk ty3 ((b.step (ex.trans ex2)).mut ty3 hg ho))
end
end VS
set_option Elab.async false
set_option linter.all false
set_option maxRecDepth 100000
set_option maxHeartbeats 2000000
/-! {k: v for ..} whose keys are tuples. -/
namespace VS
open PySem PySem.Spec L2 PyProof.Rows
/-- a pair stored by a comprehension, its key a tuple -/
theorem dset_tup {X : Cx} {pn : List (Addr × Obj)} {τ : L2.St} {H : Hp} {t : Shared} {Er : Value → Shared → Prop} {D b : Addr} {kvs : List (List Key × V)} {q : List Key} {y : V} {r : Value} {Q : Unit → Shared → Prop} (hu : X.A.units < cLine) (J : Inv X pn τ H t) (hD : H D = some (.dT kvs)) (hz : kvs.length < sizeLine)
    (hb : H b = some (.tup (q.map kV))) (ry : RelV y r) (h : ∀ t', Inv X pn τ (upd H D (.dT (L2.putK kvs q y))) t' → Q () t') : wpAny (model X.prog X.w) X.A (dictSet D (.ref b) r) Q Er t := by
  obtain ⟨z, hd, xs, rel, dd⟩ := L2.dt_of J.hok hD
  have hx : xs.length ≤ sizeLine := by
    have e := Paired.length rel
    omega
  have hp : (L2.putK kvs q y).length ≤ sizeLine := by
    have e := L2.length_putK kvs q y
    omega
  refine wpAny_dictSet_heap (hsz := hx) hu (L2.key_of J.hok hb) dd fun h' dd' hs => h _ ?_
  obtain ⟨u, es, ep, g1, g2, g3, g4, _, g5⟩ := dd'
  refine L2.d_write J (by rw [hD]; exact True.intro) hs ⟨u, g1⟩ ⟨hp, hd, _, (rel.put q hb ry).keeps fun c ys ec => ?_, u, es, ep, g1, g2, g3, g4, g5⟩
  have ne : c ≠ D := fun z => by
    rw [z, hD] at ec
    cases ec
  rw [upd_ne ne]
  exact ec
section
variable {X : Cx}
/-- the reading: D is the new dict -/
def tDcT (wi : TI) (g : TG) (tt : TT) (tk tv : TE) (vs : List Nat) : TE := fun τ H Q => wi τ H fun It H1 => ∀ D, H1 D = none → ∃ W : Nat → Nat → Hp → Prop, (∃ m, W 0 m (upd H1 D (.dT []))) ∧ ∀ i m H, W i m H →
  (It.stop i H ∧ Q (.ref D) H) ∨ (It.go i H ∧ ∃ Nx : Hp → Prop, (∀ H', Nx H' → ∃ m', m' < m ∧ W (i + 1) m' H') ∧ ∀ x H', It.yld i H x H' → g x (wipe τ vs) H' fun τ2 H2 => wipe τ2 vs = wipe τ vs ∧ tt τ2 H2 fun c H3 =>
    if c = true then tk τ2 H3 fun y H4 => tv τ2 H4 fun z H5 => ∃ kvs q b, y = .ref b ∧ H5 b = some (.tup (q.map kV)) ∧ H5 D = some (.dT kvs) ∧ kvs.length < sizeLine ∧ Nx (upd H5 D (.dT (L2.putK kvs q z))) else Nx H3)
theorem dcT_core {pn : List (Addr × Obj)} {t : Shared} {τ : L2.St} {H : Hp} {Q : VK} {kx vx tg src : Expr} {tests : List Expr} {sco : Scope} {mine : List (Str × Nat)} {ps ps' : Pos} {wi : TI} {g : TG} {tt : TT} {tk tv : TE} {use : Option (Value → Sem Unit)} {Qf : Value → Shared → Prop}
    (hu : X.A.units < cLine) (calm : X.calm = true) (nodup : X.N.Nodup) (J : Inv X pn τ H t) (hi : PI X tg src wi) (bo : BlkOk X.N X.env.scope sco mine)
    (hg : ∀ t H C cl fp, PG (X.blk t H sco (compEnvC sco cl C X.env) fp) tg g) (ht : ∀ t H C cl fp, PTs (X.blk t H sco (compEnvC sco cl C X.env) fp) tests tt)
    (hk : ∀ t H C cl fp, PE (X.blk t H sco (compEnvC sco cl C X.env) fp) kx tk) (hv : ∀ t H C cl fp, PE (X.blk t H sco (compEnvC sco cl C X.env) fp) vx tv) (hs : ∀ x, foldedSetIterable src X.env x = pure x)
    (h : tDcT wi g tt tk tv (mine.map (·.2)) τ H Q)
    (fine : ∀ D C t' m H', Inv X pn τ H' t' → Q (.ref D) H' → t'.heap.Ns C m → FpOk X pn H' C → compPost (model X.prog X.w) X.A X.xe use Qf (.ref D) C (.ok .next) t') :
    wpAny (model X.prog X.w) X.A (comprehension (.DictComp kx vx [⟨tg, src, tests, 0⟩] sco ps) sco X.env ps' newDict false (eval src X.env) use) Qf X.xe t := by
  have free : ∀ y ∈ sco.names, y.2 = .free → ∃ c, X.env.cells.lookup y.1 = some c := fun y hy e => J.ok.has _ (bo.free y hy e)
  refine wpAny_comprehension_free (use := use) rfl hs (closure_ok free) bo.kind (fun y hy e => by rw [bo.uniq y hy, e]) (thn (hi.run pn t τ H _ J h) fun xv t1 hx => thn hx fun itv t2 h2 => ?_)
  obtain ⟨it, fp, tn, It, K2, rfl, J2, Tn, st2, f2, q⟩ := h2
  refine wpAny_newObj_type (newEnv_comp ?_); generalize eD : t2.heap.objs.size = D
  obtain ⟨W, ⟨m0, w0⟩, turn⟩ := q D (J2.hok.fresh (Nat.le_of_eq eD))
  generalize e3 : ({ t2 with heap := t2.heap.push { cls := .type "dict", data := .dict #[] } } : Shared) = t3
  have J3 : Inv X pn τ (upd K2 D (.dT [])) t3 := by
    subst e3
    exact J2.laid (t' := t2.toks) (fun b o e => Heap.get?_push_of_some _ e) (Nat.le_of_eq eD) (by subst eD; exact dt_empty t2.heap J2.big)
  have hp3 : t3.heap = t2.heap.push { cls := .type "dict", data := .dict #[] } := by subst e3; rfl
  have below : ∀ b ∈ fp, b < t2.heap.objs.size := fun b hb => let ⟨o, e, _⟩ := Tn.obj _ _ st2 b hb; Heap.lt_size e
  have f3 : ∀ b ∈ fp, FpOk X pn (upd K2 D (.dT [])) b ∧ b < t3.heap.objs.size := fun b hb =>
    ⟨⟨by rw [upd_ne (by subst eD; exact Nat.ne_of_lt (below b hb))]; exact (f2 b hb).1, (f2 b hb).2⟩, by rw [hp3, Heap.size_push]; exact Nat.lt_succ_of_lt (below b hb)⟩
  have st3 : tn 0 t3.heap := Tn.keep _ _ _ st2 fun b _ o e => hp3 ▸ Heap.get?_push_of_some _ e
  have J4 := block_start J3 bo nodup f3
  have none3 : ∀ b ∈ fp, (upd K2 D (.dT [])) b = none := fun b hb => (f3 b hb).1.1
  have pg := hg t3 (upd K2 D (.dT [])) t3.heap.objs.size (cellsFrom (t3.heap.objs.size + 1) sco.names (cloFrom X.env.cells sco.names [])) fp
  have pt := ht t3 (upd K2 D (.dT [])) t3.heap.objs.size (cellsFrom (t3.heap.objs.size + 1) sco.names (cloFrom X.env.cells sco.names [])) fp
  have pk := hk t3 (upd K2 D (.dT [])) t3.heap.objs.size (cellsFrom (t3.heap.objs.size + 1) sco.names (cloFrom X.env.cells sco.names [])) fp
  have pv := hv t3 (upd K2 D (.dT [])) t3.heap.objs.size (cellsFrom (t3.heap.objs.size + 1) sco.names (cloFrom X.env.cells sco.names [])) fp
  show codeAny _ _ (.compStart (.DictComp kx vx [⟨tg, src, tests, 0⟩] sco ps) 0 (.ref it) (.ref D) (compEnvC sco (cellsFrom (t3.heap.objs.size + 1) sco.names (cloFrom X.env.cells sco.names [])) t3.heap.objs.size X.env)) (compPost (model X.prog X.w) X.A X.xe use Qf (.ref D) t3.heap.objs.size) { t3 with heap := pushCells (t3.heap.push { cls := .type "dict", data := .dict #[] }) sco.names }
  generalize ee : compEnvC sco (cellsFrom (t3.heap.objs.size + 1) sco.names (cloFrom X.env.cells sco.names [])) t3.heap.objs.size X.env = en at J4 pg pt pk pv ⊢
  have eloc : en.locals = t3.heap.objs.size := by subst ee; rfl
  generalize eK : upd K2 D (.dT []) = K3 at J3 J4 pg pt pk pv w0 none3 f3
  generalize e4 : ({ t3 with heap := pushCells (t3.heap.push { cls := .type "dict", data := .dict #[] }) sco.names } : Shared) = t4 at J4 ⊢
  have st4 : tn 0 t4.heap := Tn.keep _ _ _ st3 fun b _ o e => by subst e4; exact pushCells_keeps _ _ _ _ (Heap.get?_push_of_some _ e)
  have okfp : ∀ {τ' : L2.St} {H' : Hp} {t' : Shared}, Inv (X.blk t3 K3 sco en fp) [] τ' H' t' → (∀ b ∈ fp, H' b = none) → ∀ b ∈ fp, FpOk (X.blk t3 K3 sco en fp) [] H' b := fun {τ' H' t'} J' hn b hb =>
    ⟨hn b hb, (J'.ok.exf b hb).1, J'.ok.exfs b hb, .inl hb, fun x c e => (J'.ok.exf b hb).2 x c e, fun p hp => absurd (show p ∈ ([] : List (Addr × Obj)) ++ [] from hp) (by simp)⟩
  have loop : codeAny (model X.prog X.w) X.A (.compLoop (.DictComp kx vx [⟨tg, src, tests, 0⟩] sco ps) 0 (.ref it) (.ref D) en) (compPost (model X.prog X.w) X.A X.xe use Qf (.ref D) t3.heap.objs.size) t4 := by
    refine compLoop_anyD (fun n t' => ∃ i H', Inv (X.blk t3 K3 sco en fp) [] (wipe τ (mine.map (·.2))) H' t' ∧ tn i t'.heap ∧ (∀ b ∈ fp, H' b = none) ∧ W i n H') ?_ m0 ⟨0, K3, J4, st4, none3, w0⟩
    rintro n t5 ⟨i, H5, J5, st5, n5, w5⟩
    rcases turn i n H5 w5 with ⟨stop, qq⟩ | ⟨go, Nx, hNx, step⟩
    · refine thnF (Tn.done (X.blk t3 K3 sco en fp) rfl rfl rfl calm i [] t5 _ H5 (fun _ _ => False) J5 (okfp J5 n5) st5 stop) fun r t6 ⟨hr, J6⟩ => ?_
      subst hr
      have J7 : Inv X pn τ H5 t6 := J3.call' (ch := fp) J6.os J6.base J6.hok J6.bare fun b hb => ⟨(f3 b hb).1.2.2.2.1, (f3 b hb).1.2.1, (f3 b hb).1.2.2.2.2.1, (f3 b hb).1.2.2.2.2.2⟩
      have nC : H5 t3.heap.objs.size = none := eloc ▸ (show H5 en.locals = none from J6.free)
      obtain ⟨m, hns, _⟩ := J6.loc
      exact fine D t3.heap.objs.size t6 m H5 J7 qq (eloc ▸ (show t6.heap.Ns en.locals m from hns)) (J3.fpOk (Nat.le_refl _) nC)
    · refine thnF (Tn.item (X.blk t3 K3 sco en fp) rfl rfl rfl calm i [] t5 _ H5 (fun _ _ => False) J5 (okfp J5 n5) st5 go) fun r t6 ⟨u, hr, h6⟩ => ?_
      subst hr
      refine thnF h6 fun _ t7 ⟨x, H7, J7, r7, y7, st7, n7⟩ => ?_
      refine thnF (pg.run _ t7 _ H7 x u _ (J7.pinned (okfp J7 n7) (Tn.obj _ _ st7)) r7 (step x H7 y7)) fun _ t8 ⟨τ8, H8, J8, hw8, q8⟩ => thnF (pt.run _ t8 τ8 H8 _ J8 q8) fun c t9 ⟨H9, J9, q9⟩ => ?_
      have last : ∀ {t' : Shared} {H' : Hp}, Inv (X.blk t3 K3 sco en fp) ([] ++ pinsAt fp t7.heap) τ8 H' t' → Nx H' → ∃ m, m < n ∧ ∃ i H', Inv (X.blk t3 K3 sco en fp) [] (wipe τ (mine.map (·.2))) H' t' ∧ tn i t'.heap ∧ (∀ b ∈ fp, H' b = none) ∧ W i m H' := fun {t' H'} J' nx => by
        obtain ⟨m', hm, w'⟩ := hNx H' nx
        have kept : ∀ b ∈ fp, ∀ o, t7.heap.get? b = some o → t'.heap.get? b = some o ∧ H' b = none := fun b hb o e => (fun z => ⟨z.1, z.2.1⟩) (J'.pin (b, o) (List.mem_append_right _ (List.mem_append_right _ (mem_pinsAt hb e))))
        have len8 : (wipe τ (mine.map (·.2))).length = τ8.length := by rw [← hw8, wipe_length]
        refine ⟨m', hm, i + 1, H', (J'.unpinned (pins := [])).weak len8 (fun j v e => (wipe_some (by rw [hw8]; exact e)).1), Tn.keep _ _ _ st7 fun b hb o e => (kept b hb o e).1, fun b hb => ?_, w'⟩
        obtain ⟨o, e, _⟩ := Tn.obj _ _ st7 b hb
        exact (kept b hb o e).2
      cases c with
      | false => simp only [Bool.false_eq_true, if_false] at q9 ⊢; exact last J9 q9
      | true =>
        simp only [if_true] at q9 ⊢
        refine thnF (pk.run _ t9 τ8 H9 _ J9 q9) fun z t10 ⟨yk, H10, J10, r10, q10⟩ => thnF (pv.run _ t10 τ8 H10 _ J10 q10) fun z2 t11 ⟨yv, H11, J11, r11, kvs, kq, kb, ek, hkb, hD11, hz11, nx⟩ => ?_
        subst ek
        cases (show z = Value.ref kb from r10)
        exact dset_tup (X := X.blk t3 K3 sco en fp) hu J11 hD11 hz11 hkb r11 fun t12 J12 => last J12 nx
  exact codeAny_compStart_dict loop (Tn.self X.A 0 _ _ _ st4 loop)
theorem pe_dcT {kx vx tg src : Expr} {tests : List Expr} {sco : Scope} {mine : List (Str × Nat)} {ps : Pos} {wi : TI} {g : TG} {tt : TT} {tk tv : TE} (hu : X.A.units < cLine) (calm : X.calm = true) (nodup : X.N.Nodup) (hi : PI X tg src wi) (bo : BlkOk X.N X.env.scope sco mine)
    (hg : ∀ t H C cl fp, PG (X.blk t H sco (compEnvC sco cl C X.env) fp) tg g) (ht : ∀ t H C cl fp, PTs (X.blk t H sco (compEnvC sco cl C X.env) fp) tests tt)
    (hk : ∀ t H C cl fp, PE (X.blk t H sco (compEnvC sco cl C X.env) fp) kx tk) (hv : ∀ t H C cl fp, PE (X.blk t H sco (compEnvC sco cl C X.env) fp) vx tv) (hs : ∀ x, foldedSetIterable src X.env x = pure x := by intro _; rfl) :
    PE X (.DictComp kx vx [⟨tg, src, tests, 0⟩] sco ps) (tDcT wi g tt tk tv (mine.map (·.2))) := by
  refine ⟨fun pn t τ H Q J h => ?_⟩
  rw [arm_eval_DictComp]
  refine dcT_core hu calm nodup J hi bo hg ht hk hv hs h fun D C t' m H' J' q hn fo => ⟨m, hn, fun h'' sb => ?_⟩
  obtain ⟨a0, a1, _, a3, a4, a5⟩ := fo
  exact ⟨.ref D, H', J'.turned (t' := t'.toks) (fun b o hb e => (sb.2 b hb).trans e) a0 a1 a3 a4 a5, rfl, q⟩
/-- what a dict comprehension's turns give -/
structure Dc (X : Cx) (R : Reg) (G : List Sl) (tg kx vx : Expr) (ifs : List Expr) (scope : Scope) (vs : List Nat) (ds : List Dt) (J : Nat → List (List Key) → List Dt → Prop) : Prop where
  start : J 0 [] []
  step : ∀ i d ks xs, ds[i]? = some d → J i ks xs → ks.length ≤ i → ∃ js, (∀ Y, Blk X scope Y → A Y tg d js) ∧ (∀ p ∈ js, p.1 ∈ vs) ∧
    ∀ Y, Blk X scope Y → Ts Y R (setsD (wipeD G vs) js) ifs fun b => if b = true then ∀ Z, Blk X scope Z → E Z R (setsD (wipeD G vs) js) kx fun dk => ∃ q, dk = .key q ∧ ∀ Z', Blk X scope Z' → E Z' R (setsD (wipeD G vs) js) vx fun y => J (i + 1) (putT ks q) (putX ks xs q y) else J (i + 1) ks xs
theorem putT_len (ks : List (List Key)) (q : List Key) : (putT ks q).length ≤ ks.length + 1 := by
  unfold putT
  split
  · omega
  · simp
variable {R : Reg} {G : List Sl} {pos : Pos} {k : Kt}
theorem dc_rd {tg iter kx vx : Expr} {ifs : List Expr} {scope : Scope} {own : List (Str × Nat)} {P : Dt → Prop} {σ : L2.St} {F H : Hp} {Q : VK} (ty : Ty X.K R G σ F H) (c : CtW X.K R F H P Q)
    (h : I X R G tg iter fun ds => ds.length ≤ 100000 ∧ ∃ J, Dc X R G tg kx vx ifs scope (own.map (·.2)) ds J ∧ ∀ ks xs, J ds.length ks xs → P (.dT ks xs)) : tDcT (tiOf X tg iter) (tgB X scope tg) (ttB X scope ifs) (teB X scope kx) (teB X scope vx) (own.map (·.2)) σ H Q := by
  refine h σ F H _ ty fun Jt F1 H1 ds ex it ⟨hl, J, dc, fin⟩ => fun D hD => ?_
  have hD0 : H D = none := ex.free hD
  have nM : ¬ R.M D := ex.wf.new hD
  refine ⟨fun i m H2 => m = ds.length - i ∧ i ≤ ds.length ∧ ∃ F2 ks xs vacc, J i ks xs ∧ ks.length ≤ i ∧ H2 D = some (.dT (ks.zip vacc)) ∧ ks.length = vacc.length ∧ F2 D = none ∧ RpL X.K F2 xs vacc ∧ Ext R F1 H1 F2 H2, ⟨_, rfl, Nat.zero_le _, F1, [], [], [], dc.start, Nat.le_refl _, upd_same, rfl, ex.wf.fh.free hD, .nil, ex.wf.own hD⟩, ?_⟩
  rintro i m H2 ⟨rfl, hi, F2, ks, xs, vacc, j, hla, hD2, hlv, fD2, ra, ex2⟩
  obtain ⟨hstop, hgo⟩ := it F2 H2 ex2.ff ex2.wf
  by_cases hlt : i < ds.length
  · obtain ⟨g1, g2⟩ := hgo i ds[i] (List.getElem?_eq_getElem hlt)
    refine .inr ⟨g1, _, fun H' z => z, fun x H' y => ?_⟩
    obtain ⟨F3, ex3, r3⟩ := g2 x H' y
    obtain ⟨js, ha, hjs, hS⟩ := dc.step i ds[i] ks xs (List.getElem?_eq_getElem hlt) j hla
    intro Y bY
    show tgOf Y tg x (L2.wipe σ (own.map (·.2))) H' _
    refine ha Y bY (L2.wipe σ (own.map (·.2))) F3 H' x _ ex3.wf.fh (by rw [bY.K]; exact r3) ?_
    intro ws hw rw1
    refine ⟨?_, ?_⟩
    · rw [wipe_sets fun p hp => ?_, wipe_wipe]
      have q := (List.of_mem_zip hp).1
      obtain ⟨z, hz, e⟩ := List.mem_map.mp q
      rw [← e]
      exact hjs z hz
    · intro Y2 bY2
      have tyW : Ty X.K R (setsD (wipeD G (own.map (·.2))) js) (setsV (wipe σ (own.map (·.2))) ((js.map (·.1)).zip ws)) F3 H' := Ty.sets (((ty.ext ((ex.trans ex2).trans ex3))).wipe _) (by rw [← bY.K]; exact rw1)
      have hD3 : H' D = some (.dT (ks.zip vacc)) := ex3.hh D _ nM hD2
      have fD3 : F3 D = none := ex3.fr D (by rw [hD2]; exact ⟨_, rfl, fun _ z => nomatch z⟩) fD2
      refine hS Y2 bY2 _ F3 H' _ (by rw [bY2.K]; exact tyW) fun b F4 H4 ex4 p => ?_
      have hD4 : H4 D = some (.dT (ks.zip vacc)) := ex4.hh D _ nM hD3
      have fD4 : F4 D = none := ex4.fr D (by rw [hD3]; exact ⟨_, rfl, fun _ z => nomatch z⟩) fD3
      cases b with
      | false =>
        rw [if_neg (by decide)] at p ⊢
        exact ⟨_, by omega, rfl, hlt, F4, ks, xs, vacc, p, Nat.le_succ_of_le hla, hD4, hlv, fD4, ra.mono (ex3.ff.trans ex4.ff), (ex2.trans ex3).trans ex4⟩
      | true =>
        rw [if_pos rfl] at p ⊢
        intro Y3 bY3
        refine p Y3 bY3 _ F4 H4 _ (by rw [bY3.K]; exact tyW.ext ex4) fun y F5 H5 dk ex5 r5 ⟨kq, ek, pv⟩ => ?_
        subst ek
        intro Y4 bY4
        refine pv Y4 bY4 _ F5 H5 _ (by rw [bY4.K]; exact (tyW.ext ex4).ext ex5) fun z F6 H6 dz ex6 r6 pj => ?_
        have hD6 : H6 D = some (.dT (ks.zip vacc)) := ex6.hh D _ nM (ex5.hh D _ nM hD4)
        have fD5 : F5 D = none := ex5.fr D (by rw [hD4]; exact ⟨_, rfl, fun _ z => nomatch z⟩) fD4
        have fD6 : F6 D = none := ex6.fr D (by rw [ex5.hh D _ nM hD4]; exact ⟨_, rfl, fun _ z => nomatch z⟩) fD5
        have ra6 := ra.mono (((ex3.ff.trans ex4.ff).trans ex5.ff).trans ex6.ff)
        have e6 := (((ex2.trans ex3).trans ex4).trans ex5).trans ex6
        rw [bY3.K] at r5
        rw [bY4.K] at r6
        obtain ⟨bq, eb, hb⟩ := rp_key.mp (r5.mono ex6.ff)
        obtain ⟨us, p1, p2, p3⟩ := put_zipT (q := kq) (d := dz) (v := z) ra6 hlv r6
        have mk : Ext R F1 H1 F6 (upd H6 D (.dT (L2.putK (ks.zip vacc) kq z))) := by
          refine ⟨⟨fun a o h => ?_, e6.wf.off, fun a m => ?_, ?_⟩, e6.ff, fun a o n h => ?_, e6.fr⟩
          · rw [upd_ne (fun z => by rw [z, fD6] at h; cases h)]
            exact e6.wf.fh a o h
          · have nz : a ≠ D := fun e => nM (e ▸ m)
            rw [upd_ne nz]
            exact e6.wf.oc a m
          · refine R.st H6 _ (fun a o m h => ?_) e6.wf.b
            have nz : a ≠ D := fun e => nM (e ▸ m)
            rw [upd_ne nz]
            exact h
          · rw [upd_ne (ne_of_none h hD)]
            exact e6.hh a o n h
        refine ⟨_, kq, bq, eb, e6.wf.fh _ _ hb, hD6, ?_, ⟨_, by omega, rfl, hlt, F6, putT ks kq, putX ks xs kq dz, us, pj, Nat.le_trans (putT_len ks kq) (by omega), by rw [upd_same, p1], p2, fD6, p3, mk⟩⟩
        rw [List.length_zip]
        exact Nat.lt_of_le_of_lt (Nat.min_le_left _ _) (Nat.lt_of_le_of_lt hla (Nat.lt_of_lt_of_le hlt (Nat.le_trans hl (by decide))))
  · have e : i = ds.length := by omega
    subst e
    exact .inl ⟨hstop _ (Nat.le_refl _), c D F2 H2 (.dT ks xs) (ex.trans ex2) hD0 nM fD2 ⟨vacc, hD2, hlv, ra⟩ (fin ks xs j)⟩
theorem ew_dc {tg iter kx vx : Expr} {ifs : List Expr} {scope : Scope} {own : List (Str × Nat)} {P : Dt → Prop} (hu : X.A.units < cLine) (hc : X.calm = true) (hN : X.N.Nodup) (ok : BlkOk X.N X.env.scope scope own)
    (h : I X R G tg iter fun ds => ds.length ≤ 100000 ∧ ∃ J, Dc X R G tg kx vx ifs scope (own.map (·.2)) ds J ∧ ∀ ks xs, J ds.length ks xs → P (.dT ks xs)) (hs : ∀ x, foldedSetIterable iter X.env x = pure x := by intro _; rfl) : EW X R G (.DictComp kx vx [⟨tg, iter, ifs, 0⟩] scope pos) P := fun σ F H Q ty c => tOf.of (pe_dcT hu hc hN pi_w ok blk_pg blk_pts blk_pe blk_pe hs) (dc_rd ty c h)
/-- a new thing, given away at once -/
theorem e_ofW {e : Expr} {P : Dt → Prop} (h : EW X R G e P) : E X R G e P := fun σ F H Q ty c => h σ F H Q ty fun p F' H' d ex hp nM fp ho q => by
  obtain ⟨u, hu, _⟩ := ho.kd
  refine c (.ref p) (upd F' p u) H' d ⟨wf_one ex.wf nM hu, ex.ff.trans (same_upd1 fp), ex.hh, fun a h n => ?_⟩ (owo_rp ho (same_upd1 fp) (by rw [upd_same, hu])) q
  rw [upd_ne (fun z => h.ne (by rw [z]; exact hp))]
  exact ex.fr a h n
end
end VS
set_option Elab.async false
set_option linter.all false
set_option maxRecDepth 100000
set_option maxHeartbeats 2000000
/-! {k: v} with a tuple as key; x in xs; two fors in one comprehension; x in o of an own class. -/
namespace VS
open PySem PySem.Spec L2
section
variable {X : Cx} {R : Reg} {G : List Sl} {pos : Pos} {k : Kt}
theorem ew_disp1 {ke ve : Expr} {P : Dt → Prop} (hu : X.A.units < cLine) (h : E X R G ke fun d => ∃ q, d = .key q ∧ E X R G ve fun y => P (.dT [q] [y]))
    (hshape : (evalEachOpt [some ke] X.env).zip ((evalEach [ve] X.env).map fun v => do let x ← v; standAt pos; pure x) = (pairTrees [some ke] [ve] X.env pos).map fun p => (some p.1, p.2) := by rfl) (hl : (pairTrees [some ke] [ve] X.env pos).length = 1 := by rfl) : EW X R G (.Dict [some ke] [ve] pos) P := fun σ F H Q ty c => by
  unfold tOf
  intro pins s I
  have hn := I.hok.fresh (Nat.le_refl s.heap.objs.size)
  have I1 := I.laid (a := s.heap.objs.size) (o := .dT []) (h' := s.heap.push { cls := .type "dict", data := .dict #[] }) (t' := s.toks) (fun _ _ q => Heap.get?_push_of_some _ q) (Nat.le_refl _) (dt_empty s.heap I.big)
  generalize hp : s.heap.objs.size = p at *
  have ex0 : Ext R F H F (upd H p (.dT [])) := ty.wf.own hn
  have nM : ¬ R.M p := ty.wf.new hn
  have fp : F p = none := ty.wf.fh.free hn
  have hh := h σ F (upd H p (.dT [])) (fun x H1 => tOf X ve σ H1 fun y H2 => ∃ F2 q d b, x = .ref b ∧ F2 b = some (.tup (q.map kV)) ∧ Rp X.K F2 d y ∧ Ext R F (upd H p (.dT [])) F2 H2 ∧ P (.dT [q] [d])) (ty.ext ex0) fun x F1 H1 d ex r ⟨q, e, h2⟩ => by
    subst e
    obtain ⟨b, eb, hb⟩ := rp_key.mp r
    exact h2 σ F1 H1 _ ((ty.ext ex0).ext ex) fun y F2 H2 d2 ex2 r2 pp => ⟨F2, q, d2, b, eb, ex2.ff _ _ hb, r2, ex.trans ex2, pp⟩
  rw [arm_eval_Dict, hshape, dictDisplay_pairs _ (fun z => by rw [z] at hl; cases hl) (by omega)]
  refine wpAny_bind (wpAny_standAt (wpAny_bind (wpAny_subDictH (knd := tupleKind (mixKind X.prog X.w)) (Q := fun d s' => wpAny (model X.prog X.w) X.A (pure (Value.ref d)) (EP X pins σ Q) X.xe s') hu (by omega) ?_)))
  rw [hp]
  refine thn ((pps_cons pe_w pe_w pps_nil).run pins _ σ (upd H p (.dT [])) (fun ps H2 => ∃ x y, ps = [(x, y)] ∧ ∃ F2 q d b, x = .ref b ∧ F2 b = some (.tup (q.map kV)) ∧ Rp X.K F2 d y ∧ Ext R F (upd H p (.dT [])) F2 H2 ∧ P (.dT [q] [d])) I1 ?_) fun ws s2 z => ?_
  · unfold tPairs
    have mono : ∀ {e : Expr} {H : Hp} {Q1 Q2 : VK}, (∀ v H', Q1 v H' → Q2 v H') → tOf X e σ H Q1 → tOf X e σ H Q2 := fun {e H Q1 Q2} i z => by
      unfold tOf at z ⊢
      exact fun pins s I => wpAny_mono (z pins s I) (fun v s' ⟨y, H', a, b, q⟩ => ⟨y, H', a, b, i y H' q⟩) fun _ _ w => w
    refine mono (fun x H1 z => mono (fun y H2 z2 => ?_) z) hh
    unfold tPairs
    exact ⟨x, y, rfl, z2⟩
  · obtain ⟨ps, H2, I2, rel, x, y, e, F2, q, d, b, eb, hb, rd, ex, pp⟩ := z
    subst e eb
    cases rel with
    | @cons a1 a2 as bs r1 r2 =>
      cases r2
      obtain ⟨u1, u2⟩ := a2
      obtain ⟨r1, r1'⟩ := r1
      cases (show u1 = Value.ref b from r1)
      have hp2 : H2 p = some (.dT []) := ex.hh p _ nM upd_same
      have fp2 : F2 p = none := ex.fr p (by rw [upd_same]; exact ⟨_, rfl, fun _ z => nomatch z⟩) fp
      have hb2 := ex.wf.fh _ _ hb
      obtain ⟨z, hd, xs, kt, dd⟩ := L2.dt_of I2.hok hp2
      cases kt
      refine ⟨[(q, b, u2)], ⟨rfl, rfl, L2.key_of I2.hok hb2, trivial⟩, dd, fun h' tk dd' hs => wpAny_pure ?_⟩
      obtain ⟨o, es, ep, g1, g2, g3, g4, _, g5⟩ := dd'
      have nb : b ≠ p := fun z => by rw [z, hp2] at hb2; cases hb2
      have I3 := L2.d_write I2 (by rw [hp2]; exact True.intro) hs ⟨o, g1⟩ (t' := tk) (ob := .dT [(q, y)]) ⟨Nat.le_of_ble_eq_true rfl, hd, _, .cons ⟨rfl, by rw [upd_ne nb]; exact hb2, r1'⟩ .nil, o, es, ep, g1, g2, g3, g4, g5⟩
      refine ⟨.ref p, upd H2 p (.dT [(q, y)]), I3, rfl, ?_⟩
      refine c p F2 _ (.dT [q] [d]) ?_ hn nM fp2 ⟨[y], upd_same, rfl, .cons rd .nil⟩ pp
      refine ⟨⟨fun a z hz => ?_, ex.wf.off, fun a m => ?_, ?_⟩, ex.ff, fun a z nm hz => ?_, fun a ha nf => ?_⟩
      · rw [upd_ne (fun e => by rw [e, fp2] at hz; cases hz)]
        exact ex.wf.fh a z hz
      · have nz : a ≠ p := fun e => nM (e ▸ m)
        rw [upd_ne nz]
        exact ex.wf.oc a m
      · refine R.st H2 _ (fun a z m hz => ?_) ex.wf.b
        have nz : a ≠ p := fun e => nM (e ▸ m)
        rw [upd_ne nz]
        exact hz
      · have nz := ne_of_none hz hn
        rw [upd_ne nz]
        exact ex.hh a z nm (by rw [upd_ne nz]; exact hz)
      · have nz : a ≠ p := fun e => ha.ne (by rw [e]; exact hn)
        exact ex.fr a (by rw [upd_ne nz]; exact ha) nf
/-- i in a tuple, a list of ints -/
theorem inV_ints (i : Int) (l : List Int) : L2.inV (.int i) (l.map V.int) = l.any fun z => decide (z = i) := by
  unfold L2.inV
  rw [List.any_map]
  rfl
theorem flat_ints (l : List Int) : (l.map V.int).all L2.flatV = true := by
  rw [List.all_eq_true]
  intro x hx
  obtain ⟨z, _, rfl⟩ := List.mem_map.mp hx
  rfl
theorem w_inT {i : Int} {l : List Int} {P : Dt → Prop} (p : P (.bl (l.any fun z => decide (z = i)))) : W2 X R (compareOp .In) (.int i) (.tup (l.map .int)) P := fun F H x y Q w rx ry c => by
  obtain ⟨a, vs, rfl, sq, rl⟩ := rp_tup.mp ry
  have e := rl.ints
  subst e
  refine opOf.of op_in_seq ⟨a, _, rfl, .inr (sq_t w.fh sq), by rw [rp_int.mp rx]; rfl, flat_ints l, ?_⟩
  rw [rp_int.mp rx, if_neg (by decide), inV_ints]
  exact c.here w (rp_bl.mpr rfl) p
/-- d in o, o of a class with __contains__ -/
theorem w_inO {C : Addr} {ps : List Str} {φ : Ph} {j : Nat} {ns : List Str} {xs : List Dt} {d : Dt} {P : Dt → Prop} (F : FnM X.prog X.w X.K X.mg X.base j C "__contains__" ps [] (spD X.K 2 φ)) (hr : Room j X.A)
    (hφ : φ [.obj C ns xs, d] (fun r => ∃ b, r = .bl b ∧ P (.bl b)) fun _ _ _ => False) : W2 X R (compareOp .In) d (.obj C ns xs) P := fun F0 H x y Q w rx ry c => by
  have ry0 := ry
  obtain ⟨a, dx, vs, rfl, h1, _, _⟩ := rp_obj.mp ry
  obtain ⟨f, hM, run, _⟩ := F.run
  unfold opOf
  intro pins s σ v u I rv ru
  cases ru
  obtain ⟨od, J⟩ := inst_at I w h1
  obtain ⟨m', hF⟩ := I.fr
  refine PySem.W.in_K hF I.ok.mod.kin J hM.at_ hM.fn (wpAny_mono (run (Q := fun v H' => ∃ b, v = .bl b ∧ Q (.bl b) H') (vs := [.ref a, x]) hr I (.cons rfl (.cons rv .nil)) (spD_of w (.cons ry0 (.cons rx .nil)) rfl hφ fun v F1 H1 d ex r ⟨b, e, p⟩ => by
    subst e
    exact ⟨b, rp_bl.mp r, c _ F1 H1 _ ex (rp_bl.mpr rfl) p⟩)) (fun v s' h => ?_) fun _ _ h => h)
  obtain ⟨z, H', I', rz, b, e, q⟩ := h
  subst e
  obtain rfl : v = Value.bool b := rz
  exact wpAny_truthy_bool ⟨.bl b, H', I', rfl, q⟩
/-! ### [elt for tg in iter for tg1 in iter1] -/
def tiB (X : Cx) (scope : Scope) (tg iter : Expr) : TI := fun σ H Rr => ∀ Y, Blk X scope Y → tiOf Y tg iter σ H Rr
theorem blk_pi {scope : Scope} {tg iter : Expr} (s : Shared) (H : Hp) (C : Addr) (cl : List (Str × Addr)) (fp : List Addr) : PI (X.blk s H scope (compEnvC scope cl C X.env) fp) tg iter (tiB X scope tg iter) := by
  have z := @pi_w (X.blk s H scope (compEnvC scope cl C X.env) fp) tg iter
  exact ⟨fun pins s' σ H' Q I h => z.run pins s' σ H' Q I (h _ ⟨s, H, C, cl, fp, rfl⟩)⟩
structure Lc2 (X : Cx) (R : Reg) (G : List Sl) (tg tg1 iter1 elt : Expr) (scope : Scope) (vs vs1 : List Nat) (ds : List Dt) (J : Nat → List Dt → Prop) : Prop where
  start : J 0 []
  step : ∀ i d acc, ds[i]? = some d → J i acc → ∃ js, (∀ Y, Blk X scope Y → A Y tg d js) ∧ (∀ p ∈ js, p.1 ∈ vs) ∧ ∀ Y, Blk X scope Y → I Y R (setsD (wipeD G vs) js) tg1 iter1 fun es => ∃ J1 : Nat → List Dt → Prop, J1 0 acc ∧
    (∀ j e acc', es[j]? = some e → J1 j acc' → acc'.length < 100000 ∧ ∃ js1, (∀ Z, Blk X scope Z → A Z tg1 e js1) ∧ (∀ p ∈ js1, p.1 ∈ vs1) ∧ ∀ Z, Blk X scope Z → E Z R (setsD (wipeD (setsD (wipeD G vs) js) vs1) js1) elt fun y => J1 (j + 1) (acc' ++ [y])) ∧ ∀ acc', J1 es.length acc' → J (i + 1) acc'
theorem lc2_run {tg iter tg1 iter1 elt : Expr} {scope : Scope} {own : List (Str × Nat)} {vs1 : List Nat} {P : Dt → Prop} {σ : St} {F H : Hp} {Q : VK} (hc : X.calm = true) (hN : X.N.Nodup) (ok : BlkOk X.N X.env.scope scope own) (hv1 : ∀ i ∈ vs1, i ∈ own.map (·.2))
    (h : I X R G tg iter fun ds => ∃ J, Lc2 X R G tg tg1 iter1 elt scope (own.map (·.2)) vs1 ds J ∧ ∀ acc, J ds.length acc → P (.lst acc)) (ty : Ty X.K R G σ F H) (c : CtW X.K R F H P Q) :
    tLc2 (tiOf X tg iter) (tgB X scope tg) (ttB X scope []) (tiB X scope tg1 iter1) (tgB X scope tg1) (ttB X scope []) (teB X scope elt) (own.map (·.2)) vs1 σ H Q := by
  refine h σ F H _ ty fun Jt F1 H1 ds ex it ⟨J, lc, fin⟩ => fun D hD => ?_
  have hD0 : H D = none := ex.free hD
  have nM : ¬ R.M D := ex.wf.new hD
  refine ⟨fun i m H2 => m = ds.length - i ∧ i ≤ ds.length ∧ ∃ F2 acc vacc, J i acc ∧ H2 D = some (.lst vacc) ∧ F2 D = none ∧ RpL X.K F2 acc vacc ∧ Ext R F1 H1 F2 H2, ⟨_, rfl, Nat.zero_le _, F1, [], [], lc.start, upd_same, ex.wf.fh.free hD, .nil, ex.wf.own hD⟩, ?_⟩
  rintro i m H2 ⟨rfl, hi, F2, acc, vacc, j, hD2, fD2, ra, ex2⟩
  obtain ⟨hstop, hgo⟩ := it F2 H2 ex2.ff ex2.wf
  by_cases hlt : i < ds.length
  · obtain ⟨g1, g2⟩ := hgo i ds[i] (List.getElem?_eq_getElem hlt)
    refine .inr ⟨g1, _, fun H' z => z, fun x H' y => ?_⟩
    obtain ⟨F3, ex3, r3⟩ := g2 x H' y
    obtain ⟨js, ha, hjs, hS⟩ := lc.step i ds[i] acc (List.getElem?_eq_getElem hlt) j
    intro Y bY
    refine ha Y bY (L2.wipe σ (own.map (·.2))) F3 H' x _ ex3.wf.fh (by rw [bY.K]; exact r3) ?_
    intro ws hw rw1
    have hwp : ∀ p ∈ (js.map (·.1)).zip ws, p.1 ∈ own.map (·.2) := fun p hp => by
      obtain ⟨z, hz, e⟩ := List.mem_map.mp (List.of_mem_zip hp).1
      rw [← e]
      exact hjs z hz
    refine ⟨by rw [wipe_sets hwp, wipe_wipe], ?_⟩
    intro Y2 bY2
    have tyW : Ty X.K R (setsD (wipeD G (own.map (·.2))) js) (setsV (L2.wipe σ (own.map (·.2))) ((js.map (·.1)).zip ws)) F3 H' := Ty.sets (((ty.ext ((ex.trans ex2).trans ex3))).wipe _) (by rw [← bY.K]; exact rw1)
    have hD3 : H' D = some (.lst vacc) := ex3.hh D _ nM hD2
    have fD3 : F3 D = none := ex3.fr D (by rw [hD2]; exact ⟨_, rfl, fun _ z => nomatch z⟩) fD2
    refine ts_nil (P := fun b => b = true) rfl _ F3 H' _ (by rw [bY2.K]; exact tyW) fun b F4 H4 ex4 eb => ?_
    subst eb
    rw [if_pos rfl]
    intro Y3 bY3
    refine hS Y3 bY3 _ F4 H4 _ (by rw [bY3.K]; exact tyW.ext ex4) fun Jt1 F5 H5 es ex5 it1 ⟨J1, j0, st1, fin1⟩ => ?_
    have hD5 : H5 D = some (.lst vacc) := ex5.hh D _ nM (ex4.hh D _ nM hD3)
    have fD4 : F4 D = none := ex4.fr D (by rw [hD3]; exact ⟨_, rfl, fun _ z => nomatch z⟩) fD3
    have fD5 : F5 D = none := ex5.fr D (by rw [ex4.hh D _ nM hD3]; exact ⟨_, rfl, fun _ z => nomatch z⟩) fD4
    have tyV := (tyW.ext ex4).ext ex5
    have e5 := ((ex2.trans ex3).trans ex4).trans ex5
    refine ⟨fun a n H6 => n = es.length - a ∧ a ≤ es.length ∧ ∃ F6 acc' vacc', J1 a acc' ∧ H6 D = some (.lst vacc') ∧ F6 D = none ∧ RpL X.K F6 acc' vacc' ∧ Ext R F1 H1 F6 H6 ∧ Same F5 F6 ∧ Ty X.K R (setsD (wipeD G (own.map (·.2))) js) (setsV (L2.wipe σ (own.map (·.2))) ((js.map (·.1)).zip ws)) F6 H6, ⟨_, rfl, Nat.zero_le _, F5, acc, vacc, j0, hD5, fD5, ra.mono ((ex3.ff.trans ex4.ff).trans ex5.ff), e5, .refl _, tyV⟩, ?_⟩
    rintro a n H6 ⟨rfl, han, F6, acc', vacc', ja, hD6, fD6, ra6, e6, s56, ty6⟩
    obtain ⟨hstop1, hgo1⟩ := it1 F6 H6 s56 e6.wf
    by_cases hal : a < es.length
    · obtain ⟨k1, k2⟩ := hgo1 a es[a] (List.getElem?_eq_getElem hal)
      refine .inr ⟨k1, _, fun H' z => z, fun x1 H7 y1 => ?_⟩
      obtain ⟨F7, ex7, r7⟩ := k2 x1 H7 y1
      obtain ⟨hlen, js1, ha1, hjs1, hE⟩ := st1 a es[a] acc' (List.getElem?_eq_getElem hal) ja
      intro Y4 bY4
      refine ha1 Y4 bY4 (L2.wipe _ vs1) F7 H7 x1 _ ex7.wf.fh (by rw [bY3.K] at r7; rw [bY4.K]; exact r7) ?_
      intro ws1 hw1 rw2
      have hwp1 : ∀ p ∈ (js1.map (·.1)).zip ws1, p.1 ∈ vs1 := fun p hp => by
        obtain ⟨z, hz, e⟩ := List.mem_map.mp (List.of_mem_zip hp).1
        rw [← e]
        exact hjs1 z hz
      refine ⟨by rw [wipe_sets hwp1, wipe_wipe], ?_⟩
      intro Y5 bY5
      have tyU : Ty X.K R (setsD (wipeD (setsD (wipeD G (own.map (·.2))) js) vs1) js1) (setsV (L2.wipe (setsV (L2.wipe σ (own.map (·.2))) ((js.map (·.1)).zip ws)) vs1) ((js1.map (·.1)).zip ws1)) F7 H7 := Ty.sets ((ty6.ext ex7).wipe vs1) (by rw [← bY4.K]; exact rw2)
      refine ts_nil (P := fun b => b = true) rfl _ F7 H7 _ (by rw [bY5.K]; exact tyU) fun b F8 H8 ex8 eb => ?_
      subst eb
      rw [if_pos rfl]
      intro Y6 bY6
      refine hE Y6 bY6 _ F8 H8 _ (by rw [bY6.K]; exact tyU.ext ex8) fun y F9 H9 d ex9 r9 pj => ?_
      have hD9 : H9 D = some (.lst vacc') := ex9.hh D _ nM (ex8.hh D _ nM (ex7.hh D _ nM hD6))
      have fD7 : F7 D = none := ex7.fr D (by rw [hD6]; exact ⟨_, rfl, fun _ z => nomatch z⟩) fD6
      have fD8 : F8 D = none := ex8.fr D (by rw [ex7.hh D _ nM hD6]; exact ⟨_, rfl, fun _ z => nomatch z⟩) fD7
      have fD9 : F9 D = none := ex9.fr D (by rw [ex8.hh D _ nM (ex7.hh D _ nM hD6)]; exact ⟨_, rfl, fun _ z => nomatch z⟩) fD8
      have e9 := ((e6.trans ex7).trans ex8).trans ex9
      have mkW : Wf R F9 (upd H9 D (.lst (vacc' ++ [y]))) := by
        refine ⟨fun z o hz => ?_, e9.wf.off, fun z m => ?_, ?_⟩
        · rw [upd_ne (fun e => by rw [e, fD9] at hz; cases hz)]
          exact e9.wf.fh z o hz
        · have nz : z ≠ D := fun e => nM (e ▸ m)
          rw [upd_ne nz]
          exact e9.wf.oc z m
        · refine R.st H9 _ (fun z o m hz => ?_) e9.wf.b
          have nz : z ≠ D := fun e => nM (e ▸ m)
          rw [upd_ne nz]
          exact hz
      have mk : Ext R F1 H1 F9 (upd H9 D (.lst (vacc' ++ [y]))) := ⟨mkW, e9.ff, fun z o nm hz => by
        rw [upd_ne (ne_of_none hz hD)]
        exact e9.hh z o nm hz, e9.fr⟩
      refine ⟨vacc', hD9, ?_, ⟨_, by omega, rfl, hal, F9, acc' ++ [d], vacc' ++ [y], pj, upd_same, fD9, (ra6.mono ((ex7.ff.trans ex8.ff).trans ex9.ff)).append (.cons (by rw [← bY6.K]; exact r9) .nil), mk, ((s56.trans ex7.ff).trans ex8.ff).trans ex9.ff, ?_⟩⟩
      · rw [← ra6.length]
        exact Nat.lt_of_lt_of_le hlen (by decide)
      · have rw1' : RpL X.K F3 (js.map (·.2)) ws := by rw [← bY.K]; exact rw1
        exact Ty.sets ((ty.ext (ex.trans mk)).wipe _) (rw1'.mono (((((ex4.ff.trans ex5.ff).trans s56).trans ex7.ff).trans ex8.ff).trans ex9.ff))
    · have e : a = es.length := by omega
      subst e
      exact .inl ⟨hstop1 _ (Nat.le_refl _), ⟨_, by omega, rfl, hlt, F6, acc', vacc', fin1 acc' ja, hD6, fD6, ra6, e6⟩⟩
  · have e : i = ds.length := by omega
    subst e
    exact .inl ⟨hstop _ (Nat.le_refl _), c D F2 H2 (.lst acc) (ex.trans ex2) hD0 nM fD2 ⟨vacc, hD2, ra⟩ (fin acc j)⟩
/-- y = [.. for .. for ..] on one line, y shared -/
theorem s_lc2 (i : Nat) {y : Str} {py cpos : Pos} {tg iter tg1 iter1 elt : Expr} {scope : Scope} {own : List (Str × Nat)} {vs1 : List Nat} (hc : X.calm = true) (hN : X.N.Nodup) (hy : X.N[i]? = some y) (hyl : X.env.scope.names.lookup y = some .local)
    (hsw : swapsWith (.ListComp elt [⟨tg, iter, [], 0⟩, ⟨tg1, iter1, [], 0⟩] scope cpos) (some (.Name y py)) pos.line X.env = pure true) (ok : BlkOk X.N X.env.scope scope own) (hv1 : ∀ i ∈ vs1, i ∈ own.map (·.2))
    (h : I X R G tg iter fun ds => ∃ J, Lc2 X R G tg tg1 iter1 elt scope (own.map (·.2)) vs1 ds J ∧ ∀ acc, J ds.length acc → k.nx (G.set i (.sh (.lst acc)))) (hs : ∀ x, foldedSetIterable iter X.env x = pure x := by intro _; rfl) (hs1 : ∀ env x, foldedSetIterable iter1 env x = pure x := by intro _ _; rfl) :
    S1 X R (.Assign [.Name y py] (.ListComp elt [⟨tg, iter, [], 0⟩, ⟨tg1, iter1, [], 0⟩] scope cpos) pos) G k := fun F0 H0 σ F H D ty b c => by
  refine s1Of.of (ps_setLc2 hc hN hy hyl hsw pi_w ok hv1 blk_pg blk_pts blk_pi blk_pg blk_pts blk_pe hs hs1) (lc2_run (P := fun d => k.nx (G.set i (.sh d))) hc hN ok hv1 h ty fun p F' H' d ex hp nM fp ho q => ?_)
  obtain ⟨u, hu, _⟩ := ho.kd
  have ex2 : Ext R F H (upd F' p u) H' := by
    refine ⟨wf_one ex.wf nM hu, ex.ff.trans (same_upd1 fp), ex.hh, fun a h n => ?_⟩
    rw [upd_ne (fun z => h.ne (by rw [z]; exact hp))]
    exact ex.fr a h n
  exact c.nx _ _ _ H' q ((ty.ext ex2).set i (owo_rp ho (same_upd1 fp) (by rw [upd_same, hu]))) ((b.step ex2).set i)
end
end VS
set_option Elab.async false
set_option linter.all false
set_option maxRecDepth 100000
set_option maxHeartbeats 2000000
/-! dict(d), its keys tuples. -/
namespace VS
open PySem PySem.Spec L2
section
variable {prog : Program} {w : World} {K : Type} [DecidableEq K] {knd : HeapKind prog w K} {A : Around} {E : Value → Shared → Prop} {s : Shared}
end
section
variable {X : Cx} {R : Reg} {G : List Sl} {pos : Pos} {k : Kt}
end
end VS
set_option Elab.async false
set_option linter.all false
set_option maxRecDepth 100000
/-! the keys (wins, losses) hash apart. -/
namespace VS
open PySem PySem.Spec L2
def hp (a b : Int) : Int := reduceHash (Builtin.Tuple.tupleHashOf [hashInt a, hashInt b])
/-- the places of a table -/
def spots : List (Nat × Nat) := (List.range 31).flatMap fun t => (List.range (t + 1)).map fun a => (a, t - a)
end VS
set_option Elab.async false
set_option linter.all false
set_option maxRecDepth 100000
set_option maxHeartbeats 2000000
/-! for a, b in d: a dict walked, its keys pairs of ints. -/
namespace VS
open PySem PySem.Spec L2
/-- what stands at d while it is walked, and else -/
def Lk (kvs : List (List Key × V)) (w : HO) : Prop := w = .dT kvs ∨ ∃ od, w = .frz od (.dT kvs)
section
variable {K : PySem.W.Frag} {F : Hp} {d : Addr} {w : HO} {kvs : List (List Key × V)}
theorem lk_ne {a : Addr} {u : HO} (hd : Rd F d (.dT kvs)) (h : F a = some u) (h1 : u ≠ .dT kvs) (h2 : ∀ od, u ≠ .frz od (.dT kvs)) : a ≠ d := fun e => by
  subst e
  rcases hd with hd | ⟨od, hd⟩
  · rw [hd] at h
    exact h1 (Option.some.inj h).symm
  · rw [hd] at h
    exact h2 od (Option.some.inj h).symm
theorem lk_rd {a : Addr} {u : HO} (hd : Rd F d (.dT kvs)) (hw : Lk kvs w) (h : Rd F a u) (h0 : ∀ od x, u ≠ .frz od x) : Rd (upd F d w) a u := by
  by_cases e : a = d
  · subst e
    have eu : u = .dT kvs := by
      rcases hd with hd | ⟨od, hd⟩
      · rcases h with h | ⟨o, h⟩
        · rw [hd] at h; exact (Option.some.inj h).symm
        · rw [hd] at h; cases h
      · rcases h with h | ⟨o, h⟩
        · rw [hd] at h; exact absurd (Option.some.inj h).symm (h0 _ _)
        · rw [hd] at h; cases h; rfl
    subst eu
    rcases hw with hw | ⟨od, hw⟩
    · exact .inl (by rw [upd_same, hw])
    · exact .inr ⟨od, by rw [upd_same, hw]⟩
  · rcases h with h | ⟨o, h⟩
    · exact .inl (by rw [upd_ne e]; exact h)
    · exact .inr ⟨o, by rw [upd_ne e]; exact h⟩
theorem lk_t {a : Addr} {xs : List V} (hd : Rd F d (.dT kvs)) (hw : Lk kvs w) (h : SqT K F a xs) : SqT K (upd F d w) a xs := by
  rcases h with h | h
  · exact .inl (lk_rd hd hw h fun _ _ z => nomatch z)
  · exact .inr h
theorem lk_l {a : Addr} {xs : List V} (hd : Rd F d (.dT kvs)) (hw : Lk kvs w) (h : SqL K F a xs) : SqL K (upd F d w) a xs := by
  rcases h with h | h
  · exact .inl (lk_rd hd hw h fun _ _ z => nomatch z)
  · exact .inr h
theorem lk_at {a : Addr} {u : HO} (hd : Rd F d (.dT kvs)) (h : F a = some u) (h1 : u ≠ .dT kvs) (h2 : ∀ od, u ≠ .frz od (.dT kvs)) : upd F d w a = some u := by
  rw [upd_ne (lk_ne hd h h1 h2)]
  exact h
mutual
theorem rp_lk (hd : Rd F d (.dT kvs)) (hw : Lk kvs w) : ∀ {x : Dt} {v : V}, Rp K F x v → Rp K (upd F d w) x v
  | .non, _, h => by simp only [Rp] at h ⊢; exact h
  | .bl _, _, h => by simp only [Rp] at h ⊢; exact h
  | .int _, _, h => by simp only [Rp] at h ⊢; exact h
  | .str _, _, h => by simp only [Rp] at h ⊢; exact h
  | .ty _, _, h => by simp only [Rp] at h ⊢; exact h
  | .adr _, _, h => by simp only [Rp] at h ⊢; exact h
  | .tup xs, _, h => by
    simp only [Rp] at h ⊢
    obtain ⟨a, vs, h1, h2, h3⟩ := h
    exact ⟨a, vs, h1, lk_t hd hw h2, rpL_lk hd hw h3⟩
  | .lst xs, _, h => by
    simp only [Rp] at h ⊢
    obtain ⟨a, vs, h1, h2, h3⟩ := h
    exact ⟨a, vs, h1, lk_at hd h2 (fun z => nomatch z) (fun _ z => nomatch z), rpL_lk hd hw h3⟩
  | .frl xs, _, h => by
    simp only [Rp] at h ⊢
    obtain ⟨a, vs, h1, h2, h3⟩ := h
    exact ⟨a, vs, h1, lk_l hd hw h2, rpL_lk hd hw h3⟩
  | .dT ks xs, _, h => by
    simp only [Rp] at h ⊢
    obtain ⟨a, vs, h1, h2, h4, h3⟩ := h
    exact ⟨a, vs, h1, lk_rd hd hw h2 (fun _ _ z => nomatch z), h4, rpL_lk hd hw h3⟩
  | .dK ks xs, _, h => by
    simp only [Rp] at h ⊢
    obtain ⟨a, vs, h1, h2, h4, h3⟩ := h
    exact ⟨a, vs, h1, lk_rd hd hw h2 (fun _ _ z => nomatch z), h4, rpL_lk hd hw h3⟩
  | .obj C ns xs, _, h => by
    simp only [Rp] at h ⊢
    obtain ⟨a, dx, vs, h1, h2, h4, h3⟩ := h
    exact ⟨a, dx, vs, h1, lk_at hd h2 (fun z => nomatch z) (fun _ z => nomatch z), h4, rpL_lk hd hw h3⟩
  | .exv a ns xs o, _, h => by
    simp only [Rp] at h ⊢
    refine ⟨h.1, fun dx hdx => ?_⟩
    obtain ⟨vs, h1, h2, h3⟩ := h.2 dx hdx
    exact ⟨vs, lk_at hd h1 (fun z => nomatch z) (fun _ z => nomatch z), h2, rpL_lk hd hw h3⟩
  | .at_ a x, _, h => by
    simp only [Rp] at h ⊢
    exact ⟨h.1, rp_lk hd hw h.2⟩
  | .key ks, _, h => by
    simp only [Rp] at h ⊢
    obtain ⟨a, h1, h2⟩ := h
    exact ⟨a, h1, lk_at hd h2 (fun z => nomatch z) (fun _ z => nomatch z)⟩
theorem rpL_lk (hd : Rd F d (.dT kvs)) (hw : Lk kvs w) : ∀ {xs : List Dt} {vs : List V}, RpL K F xs vs → RpL K (upd F d w) xs vs
  | [], _, h => by simp only [RpL] at h ⊢; exact h
  | x :: xs, _, h => by
    simp only [RpL] at h ⊢
    obtain ⟨v, r, h1, h2, h3⟩ := h
    exact ⟨v, r, h1, rp_lk hd hw h2, rpL_lk hd hw h3⟩
end
theorem owo_lk {H : Hp} {o : Addr} {x : Dt} (hd : Rd F d (.dT kvs)) (hw : Lk kvs w) (ne : o ≠ d) (h : OwO K F H o x) : OwO K (upd F d w) (upd H d w) o x := by
  rcases h.kinds with ⟨xs, rfl⟩ | ⟨ks, xs, rfl⟩ | ⟨ks, xs, rfl⟩ | ⟨C, ns, xs, rfl⟩ | ⟨a, C, ns, xs, rfl⟩ | ⟨a, xs, rfl⟩ | ⟨a, ks, xs, rfl⟩
  · obtain ⟨vs, h, r⟩ := h; exact ⟨vs, by rw [upd_ne ne]; exact h, rpL_lk hd hw r⟩
  · obtain ⟨vs, h, l, r⟩ := h; exact ⟨vs, by rw [upd_ne ne]; exact h, l, rpL_lk hd hw r⟩
  · obtain ⟨vs, h, l, r⟩ := h; exact ⟨vs, by rw [upd_ne ne]; exact h, l, rpL_lk hd hw r⟩
  · obtain ⟨dx, vs, h, l, r⟩ := h; exact ⟨dx, vs, by rw [upd_ne ne]; exact h, l, rpL_lk hd hw r⟩
  · obtain ⟨e, dx, vs, h, l, r⟩ := h; exact ⟨e, dx, vs, by rw [upd_ne ne]; exact h, l, rpL_lk hd hw r⟩
  · obtain ⟨e, vs, h, r⟩ := h; exact ⟨e, vs, by rw [upd_ne ne]; exact h, rpL_lk hd hw r⟩
  · obtain ⟨e, vs, h, l, r⟩ := h; exact ⟨e, vs, by rw [upd_ne ne]; exact h, l, rpL_lk hd hw r⟩
theorem same_lk {H : Hp} (s : Same F H) : Same (upd F d w) (upd H d w) := fun a o h => by
  by_cases e : a = d
  · subst e; rw [upd_same] at h ⊢; exact h
  · rw [upd_ne e] at h ⊢; exact s a o h
theorem rd_some {u : HO} (h : Rd F d u) : F d ≠ none := by
  rcases h with h | ⟨o, h⟩ <;> rw [h] <;> exact fun z => nomatch z
theorem Wf.lk {R : Reg} {H : Hp} (wf : Wf R F H) (hd : Rd F d (.dT kvs)) : Wf R (upd F d w) (upd H d w) := by
  have nM : ¬ R.M d := fun m => rd_some hd (wf.off d m)
  have ne : ∀ {a}, R.M a → a ≠ d := fun m e => nM (e ▸ m)
  exact ⟨same_lk wf.fh, fun a m => by rw [upd_ne (ne m)]; exact wf.off a m, fun a m => by rw [upd_ne (ne m)]; exact wf.oc a m, R.st H _ (fun a o m h => by rw [upd_ne (ne m)]; exact h) wf.b⟩
theorem Ty.lk {R : Reg} {G : List Sl} {σ : St} {H : Hp} (ty : Ty K R G σ F H) (hd : Rd F d (.dT kvs)) (hw : Lk kvs w) : Ty K R G σ (upd F d w) (upd H d w) := by
  refine ⟨ty.wf.lk hd, sls_of ty.sl.len fun j g hj => ?_, ty.nd⟩
  obtain ⟨v, e, s⟩ := ty.sl.get hj
  refine ⟨v, e, ?_⟩
  cases g with
  | no => trivial
  | sh x => obtain ⟨y, e1, r⟩ := s; exact ⟨y, e1, rp_lk hd hw r⟩
  | ow x =>
    obtain ⟨o, e1, f1, nM, ow⟩ := s
    have ne : o ≠ d := fun z => rd_some hd (by rw [← z]; exact f1)
    exact ⟨o, e1, by rw [upd_ne ne]; exact f1, nM, owo_lk hd hw ne ow⟩
end
section
variable {X : Cx} {R : Reg} {G : List Sl} {pos : Pos} {k : Kt}
/-- what the turns of the walk want -/
def Kw (X : Cx) (R : Reg) (G : List Sl) (k : Kt) (tg : Expr) (body : List Stmt) (ks : List (List Key)) : Prop := ∃ J : Nat → List Sl → Prop, J 0 G ∧
  (∀ i q G, ks[i]? = some q → J i G → ∃ (js : List (Nat × Int)), A X tg (.tup (q.map keyD)) (js.map fun p => (p.1, Dt.int p.2)) ∧ S X R body (setsD G (js.map fun p => (p.1, Dt.int p.2))) { k with nx := J (i + 1), ct := J (i + 1), bk := k.nx }) ∧ ∀ G, J ks.length G → k.nx G
theorem forK_core {tg : Expr} {x : Str} {body : List Stmt} {ks : List (List Key)} {vs : List V} {d : Addr} {od : Obj} {i0 : Nat} {F0 H0 F H : Hp} {σ : St} {D : Ends} (hN : X.N[i0]? = some x) (hv : Vis X.env.scope x) (h : Kw X R G k tg body ks) (hl : ks.length = vs.length) (hsl : σ[i0]? = some (some (.ref d)))
    (hF : F d = some (.frz od (.dT (ks.zip vs)))) (ty : Ty X.K R G σ F H) (b : Bs R F0 H0 G σ F H) (c : KOk X.K R F0 H0 k D) : tFor (iKeys fun τ H Q => ∃ v, τ[i0]? = some (some v) ∧ Q v H) (tgOf X tg) (sOf X body) D σ H := by
  obtain ⟨J, j0, jt, jd⟩ := h
  have hz : (ks.zip vs).length = ks.length := by rw [List.length_zip]; omega
  refine ⟨.ref d, hsl, d, od, rfl, .inr ⟨_, ty.wf.fh _ _ hF, ?_⟩⟩
  refine ⟨fun i m σ H => m = ks.length - i ∧ i ≤ ks.length ∧ ∃ G F, J i G ∧ Ty X.K R G σ F H ∧ Bs R F0 H0 G σ F H ∧ F d = some (.frz od (.dT (ks.zip vs))), ⟨_, rfl, Nat.zero_le _, G, F, j0, ty, b, hF⟩, ?_⟩
  rintro i m σ2 H2 ⟨rfl, hi, G2, F2, jg, ty2, b2, hF2⟩
  have hd2 := ty2.wf.fh _ _ hF2
  by_cases hlt : i < ks.length
  · refine .inr ⟨⟨hd2, by rw [hz]; exact hlt⟩, _, fun σ' H' z => z, fun y H' yy => ?_⟩
    obtain ⟨rfl, q, v, a, e1, e2, e3⟩ := yy
    subst e2
    have eq : ks[i]? = some q := by
      rw [List.getElem?_zip_eq_some] at e1
      exact e1.1
    obtain ⟨js, ha, hS⟩ := jt i q G2 eq jg
    have sm : Same (upd F2 a (.tup (q.map kV))) H' := fun z o hz' => by
      by_cases e : z = a
      · subst e; rw [upd_same] at hz'; rw [e3]; exact hz'
      · rw [upd_ne e] at hz'; exact ty2.wf.fh z o hz'
    refine ha σ2 (upd F2 a (.tup (q.map kV))) H' (.ref a) _ sm (rp_tup.mpr ⟨a, _, rfl, .inl (.inl upd_same), rpL_keys q⟩) fun ws hw rw' => ?_
    have rv : RpL X.K F2 ((js.map fun p => (p.1, Dt.int p.2)).map (·.2)) ws := by
      have e : (js.map fun p => (p.1, Dt.int p.2)).map (·.2) = (js.map (·.2)).map Dt.int := by rw [List.map_map, List.map_map]; rfl
      rw [e] at rw' ⊢
      rw [rw'.ints]
      exact RpL.of_ints
    have b4 : Bs R F0 H0 (setsD G2 (js.map fun p => (p.1, Dt.int p.2))) (setsV σ2 (((js.map fun p => (p.1, Dt.int p.2)).map (·.1)).zip ws)) F2 H' := ⟨b2.ext, fun o ho => b2.fresh o (owns_sets hw ho), b2.z⟩
    have c2 := c.here b2.ext b2.z
    have nxt : ∀ G' σ' F' H'', J (i + 1) G' → Ty X.K R G' σ' F' H'' → Bs R F2 H0 G' σ' F' H'' → ∃ m', m' < ks.length - i ∧ m' = ks.length - (i + 1) ∧ i + 1 ≤ ks.length ∧ ∃ G F, J (i + 1) G ∧ Ty X.K R G σ' F H'' ∧ Bs R F0 H0 G σ' F H'' ∧ F d = some (.frz od (.dT (ks.zip vs))) :=
      fun G' σ' F' H'' z tz bz => ⟨_, by omega, rfl, hlt, G', F', z, tz, Bs.back b2.ext bz b2.z, bz.ext.ff _ _ hF2⟩
    exact hS F2 H0 _ F2 H' _ (ty2.sets rv) b4.here ⟨nxt, c2.rt, c2.rn, c2.nx, nxt⟩
  · have e : i = ks.length := by omega
    subst e
    exact .inl ⟨⟨hd2, by rw [hz]; exact Nat.le_refl _⟩, c.nx G2 σ2 F2 H2 (jd G2 jg) ty2 b2⟩
end
end VS
set_option Elab.async false
set_option linter.all false
set_option maxRecDepth 100000
/-! dicts whose keys are pairs of ints as association lists; x in a list of data; methods that give back new things. -/
namespace VS
open PySem PySem.Spec L2
abbrev Al (α : Type) := List ((Int × Int) × α)
def kk (p : Int × Int) : List Key := [.inl p.1, .inl p.2]
theorem kk_inj {p q : Int × Int} : kk p = kk q ↔ p = q := by
  constructor
  · intro h
    unfold kk at h
    injection h with h1 h2
    injection h2 with h2 h3
    injection h1 with h1
    injection h2 with h2
    exact Prod.ext h1 h2
  · rintro rfl; rfl
def keysA {α : Type} (m : Al α) : List (List Key) := m.map fun e => kk e.1
def dA {α : Type} (f : α → Dt) (m : Al α) : Dt := .dT (keysA m) (m.map fun e => f e.2)
def lk {α : Type} : Al α → Int × Int → Option α
  | [], _ => none
  | e :: m, p => if e.1 = p then some e.2 else lk m p
def has {α : Type} (m : Al α) (p : Int × Int) : Bool := (lk m p).isSome
def put {α : Type} (m : Al α) (p : Int × Int) (a : α) : Al α := if has m p = true then m.map fun e => if e.1 = p then (e.1, a) else e else m ++ [(p, a)]
theorem look_dA {α : Type} (f : α → Dt) (p : Int × Int) : ∀ m : Al α, lookT (keysA m) (m.map fun e => f e.2) (kk p) = (lk m p).map f
  | [] => rfl
  | e :: m => by
    show lookT (kk e.1 :: keysA m) (f e.2 :: m.map fun e => f e.2) (kk p) = _
    unfold lookT lk
    by_cases h : e.1 = p
    · rw [if_pos (kk_inj.mpr h), if_pos h]; rfl
    · rw [if_neg (fun z => h (kk_inj.mp z)), if_neg h]; exact look_dA f p m
theorem hasT_A {α : Type} (p : Int × Int) : ∀ m : Al α, hasT (keysA m) (kk p) = has m p
  | [] => rfl
  | e :: m => by
    have ih := hasT_A p m
    unfold hasT at ih ⊢
    unfold has lk
    show (List.any (kk e.1 :: keysA m) _) = _
    rw [List.any_cons, ih]
    by_cases h : e.1 = p
    · rw [if_pos h, decide_eq_true (kk_inj.mpr h)]; rfl
    · rw [if_neg h, decide_eq_false (fun z => h (kk_inj.mp z))]; rfl
theorem repV_A {α : Type} (f : α → Dt) (p : Int × Int) (a : α) : ∀ m : Al α, repV (kk p) (f a) (keysA m) (m.map fun e => f e.2) = (m.map fun e => if e.1 = p then (e.1, a) else e).map fun e => f e.2
  | [] => rfl
  | e :: m => by
    show repV (kk p) (f a) (kk e.1 :: keysA m) (f e.2 :: m.map fun e => f e.2) = _
    unfold repV
    rw [repV_A f p a m]
    simp only [List.map_cons]
    by_cases h : e.1 = p
    · rw [if_pos (kk_inj.mpr h), if_pos h]
    · rw [if_neg (fun z => h (kk_inj.mp z)), if_neg h]
theorem put_dA {α : Type} (f : α → Dt) (m : Al α) (p : Int × Int) (a : α) : Dt.dT (putT (keysA m) (kk p)) (putX (keysA m) (m.map fun e => f e.2) (kk p) (f a)) = dA f (put m p a) := by
  unfold dA putT putX put
  rw [hasT_A]
  cases h : has m p
  · rw [if_neg (by decide), if_neg (by decide), if_neg (by decide)]
    unfold keysA
    rw [List.map_append, List.map_append]; rfl
  · rw [if_pos rfl, if_pos rfl, if_pos rfl, repV_A]
    congr 1
    unfold keysA
    rw [List.map_map]
    refine List.map_congr_left fun e _ => ?_
    show kk e.1 = kk (if e.1 = p then (e.1, a) else e).1
    split <;> rfl
theorem put_len {α : Type} (m : Al α) (p : Int × Int) (a : α) : (put m p a).length ≤ m.length + 1 := by
  unfold put
  split
  · simp
  · simp
theorem keysA_len {α : Type} (m : Al α) : (keysA m).length = m.length := by unfold keysA; simp
theorem lk_map {α : Type} (p q : Int × Int) (a : α) : ∀ m : Al α, lk (m.map fun e => if e.1 = p then (e.1, a) else e) q = if p = q then (lk m q).map fun _ => a else lk m q
  | [] => by unfold lk; simp
  | e :: m => by
    have ih := lk_map p q a m
    simp only [List.map_cons]
    unfold lk
    by_cases h : e.1 = p
    · rw [if_pos h]
      by_cases h2 : e.1 = q
      · rw [if_pos h2, if_pos (h.symm.trans h2), if_pos h2]; rfl
      · rw [if_neg h2, ih, if_neg (fun z => h2 (h.trans z)), if_neg (fun z => h2 (h.trans z)), if_neg h2]
    · rw [if_neg h, ih]
      by_cases h2 : e.1 = q
      · rw [if_pos h2, if_neg (fun z => h (h2.trans z.symm)), if_pos h2]
      · rw [if_neg h2, if_neg h2]
theorem lk_app {α : Type} (p q : Int × Int) (a : α) : ∀ m : Al α, lk (m ++ [(p, a)]) q = match lk m q with | some x => some x | none => if p = q then some a else none
  | [] => by rw [List.nil_append]; unfold lk; unfold lk; rfl
  | e :: m => by
    have ih := lk_app p q a m
    rw [List.cons_append]
    unfold lk
    by_cases h : e.1 = q
    · rw [if_pos h, if_pos h]
    · rw [if_neg h, if_neg h]; exact ih
theorem lk_put {α : Type} (m : Al α) (p q : Int × Int) (a : α) : lk (put m p a) q = if p = q then some a else lk m q := by
  unfold put
  cases h : has m p
  · rw [if_neg (by decide), lk_app]
    by_cases e : p = q
    · subst e
      rw [if_pos rfl, if_pos rfl]
      unfold has at h
      cases z : lk m p
      · rfl
      · rw [z] at h; cases h
    · rw [if_neg e, if_neg e]
      cases lk m q <;> rfl
  · rw [if_pos rfl, lk_map]
    by_cases e : p = q
    · subst e
      rw [if_pos rfl, if_pos rfl]
      unfold has at h
      cases z : lk m p
      · rw [z] at h; cases h
      · rfl
    · rw [if_neg e, if_neg e]
theorem lk_mem {α : Type} {p : Int × Int} {a : α} : ∀ {m : Al α}, lk m p = some a → (p, a) ∈ m
  | [], h => by cases h
  | e :: m, h => by
    unfold lk at h
    split at h
    · rename_i z; cases h; subst z; exact List.mem_cons_self
    · exact List.mem_cons_of_mem _ (lk_mem h)
theorem fre_ints {α : Type} (κ : Nat) (f : α → Int) (l : List α) : freL κ (l.map fun e => Dt.int (f e)) = true := by
  induction l with
  | nil => rfl
  | cons x l ih => show (fre κ (.int (f x)) && freL κ _) = true; rw [ih]; rfl
section
variable {X : Cx} {R : Reg} {G : List Sl} {pos : Pos} {k : Kt}
theorem toPs_any (d : Dt) : ∀ ds : List Dt, ((toPs ds).any fun z => PyData.eqv z (toP d)) = ds.any fun z => eqD z d
  | [] => rfl
  | x :: xs => by simp only [toPs, List.any_cons, toPs_any d xs]; rfl
/-- d in a list of data -/
theorem w_inD {d : Dt} {ds : List Dt} {P : Dt → Prop} (hu : X.A.units + 65 < cLine) (hd : okD d = true) (hs : okD (.lst ds) = true) (p : P (.bl (ds.any fun z => eqD z d))) : W2 X R (compareOp .In) d (.lst ds) P := fun F H x y Q w rx ry c => by
  obtain ⟨a1, a2⟩ := ok_shaped w.fh hd rx
  obtain ⟨b1, b2⟩ := ok_shaped w.fh hs ry
  simp only [toP] at b1 b2
  refine opOf.of (op_inD hu) ⟨_, _, a1, b1, a2, b2, ?_⟩
  rw [toPs_any]
  exact c.here w (rp_bl.mpr rfl) p
theorem w_notInD {d : Dt} {ds : List Dt} {P : Dt → Prop} (hu : X.A.units + 65 < cLine) (hd : okD d = true) (hs : okD (.lst ds) = true) (p : P (.bl (!ds.any fun z => eqD z d))) : W2 X R (compareOp .NotIn) d (.lst ds) P := fun F H x y Q w rx ry c => by
  obtain ⟨a1, a2⟩ := ok_shaped w.fh hd rx
  obtain ⟨b1, b2⟩ := ok_shaped w.fh hs ry
  simp only [toP] at b1 b2
  refine opOf.of (op_notInD hu) ⟨_, _, a1, b1, a2, b2, ?_⟩
  rw [toPs_any]
  exact c.here w (rp_bl.mpr rfl) p
theorem _root_.L2.Room.u0 {k : Nat} {A : Around} (r : Room k A) : A.units < cLine := by have := r.un; omega
theorem _root_.L2.Room.u1 {k : Nat} {A : Around} (r : Room k A) : A.units + 1 < cLine := by have := r.un; omega
theorem _root_.L2.Room.u65 {k : Nat} {A : Around} (r : Room k A) : A.units + 65 < cLine := by have := r.un; omega
/-- a key read as a pair -/
theorem e_asK {e : Expr} {P : Dt → Prop} (h : E X R G e fun d => ∃ p, d = .key (kk p) ∧ P (.tup [.int p.1, .int p.2])) : E X R G e P :=
  e_asT fun σ F H Q ty c => h σ F H Q ty fun v F' H' d ex r ⟨p, e, q⟩ => c v F' H' d ex r ⟨kk p, e, q⟩
/-- dicts of counts: in, [], get, [] = -/
theorem e_kk {a b : Expr} {x1} {P : Dt → Prop} (h : EA X R G [a, b] fun ds => ∃ p : Int × Int, ds = [.int p.1, .int p.2] ∧ P (.key (kk p))) : E X R G (.Tuple [a, b] x1 pos) P :=
  e_key fun σ F H Q ty c => h σ F H Q ty fun vs F' H' ds ex r ⟨p, e, q⟩ => c vs F' H' ds ex r ⟨kk p, e, by rw [e]; exact Nat.le_of_ble_eq_true rfl, q⟩
theorem e_dinA {i o : Expr} {P : Dt → Prop} (hu : X.A.units + 1 < cLine) (h : E X R G i fun d' => ∃ p, d' = .key (kk p) ∧ E X R G o fun d => ∃ (α : Type) (f : α → Dt) (m : Al α), d = dA f m ∧ P (.bl (has m p))) (hb : behindInMarks .In o = false := by first | exact nobehind _ (by decide) (by decide) | rfl) : E X R G (.Compare i [.In] [o] pos) P :=
  e_din hu (fun σ F H Q ty c => h σ F H Q ty fun v F' H' d ex r ⟨p, e, h2⟩ => c v F' H' d ex r ⟨kk p, e, fun σ F H Q ty c => h2 σ F H Q ty fun v F' H' d ex r ⟨α, f, m, e2, q⟩ => c v F' H' d ex r ⟨_, _, e2, by rw [look_dA, Option.isSome_map]; exact q⟩⟩) hb
theorem t_dinA {i o : Expr} {P : Bool → Prop} (hu : X.A.units + 1 < cLine) (h : E X R G i fun d' => ∃ p, d' = .key (kk p) ∧ E X R G o fun d => ∃ (α : Type) (f : α → Dt) (m : Al α), d = dA f m ∧ P (has m p)) (hb : behindInMarks .In o = false := by first | exact nobehind _ (by decide) (by decide) | rfl) : T X R G (.Compare i [.In] [o] pos) P :=
  t_din hu (fun σ F H Q ty c => h σ F H Q ty fun v F' H' d ex r ⟨p, e, h2⟩ => c v F' H' d ex r ⟨kk p, e, fun σ F H Q ty c => h2 σ F H Q ty fun v F' H' d ex r ⟨α, f, m, e2, q⟩ => c v F' H' d ex r ⟨_, _, e2, by rw [look_dA, Option.isSome_map]; exact q⟩⟩) hb
theorem e_dnotinA {i o : Expr} {P : Dt → Prop} (hu : X.A.units + 1 < cLine) (h : E X R G i fun d' => ∃ p, d' = .key (kk p) ∧ E X R G o fun d => ∃ (α : Type) (f : α → Dt) (m : Al α), d = dA f m ∧ P (.bl (!has m p))) (hb : behindInMarks .NotIn o = false := by first | exact nobehind _ (by decide) (by decide) | rfl) : E X R G (.Compare i [.NotIn] [o] pos) P :=
  e_dnotin hu (fun σ F H Q ty c => h σ F H Q ty fun v F' H' d ex r ⟨p, e, h2⟩ => c v F' H' d ex r ⟨kk p, e, fun σ F H Q ty c => h2 σ F H Q ty fun v F' H' d ex r ⟨α, f, m, e2, q⟩ => c v F' H' d ex r ⟨_, _, e2, by rw [look_dA, Option.isSome_map]; exact q⟩⟩) hb
theorem e_dgetA {i o : Expr} {P : Dt → Prop} (hu : X.A.units + 1 < cLine) (h : E X R G o fun d => ∃ (α : Type) (f : α → Dt) (m : Al α), d = dA f m ∧ E X R G i fun d' => ∃ p a, d' = .key (kk p) ∧ lk m p = some a ∧ P (f a)) (hs : NoSl i := by intro _ _; rfl) : E X R G (.Subscript o i pos) P :=
  e_dget hu (fun σ F H Q ty c => h σ F H Q ty fun v F' H' d ex r ⟨α, f, m, e2, h2⟩ => c v F' H' d ex r ⟨_, _, e2, fun σ F H Q ty c => h2 σ F H Q ty fun v F' H' d ex r ⟨p, a, e, el, q⟩ => c v F' H' d ex r ⟨kk p, f a, e, by rw [look_dA, el]; rfl, q⟩⟩) hs
theorem e_dget2A {o e g : Expr} {apos : Pos} {P : Dt → Prop} (hu : X.A.units + 1 < cLine) (h : E X R G o fun d => ∃ (m : Al Int), d = dA .int m ∧ E X R G e fun d' => ∃ p, d' = .key (kk p) ∧ E X R G g fun d3 => ∃ z, d3 = .int z ∧ P (.int ((lk m p).getD z)))
    (m : M2 X o "get" apos e g pos := by exact ⟨rfl, rfl, rfl, rfl⟩) : E X R G (.Call (.Attribute o "get" apos) [e, g] [] pos) P :=
  e_dget2 hu (fun σ F H Q ty c => h σ F H Q ty fun v F' H' d ex r ⟨m, e2, h2⟩ => c v F' H' d ex r ⟨_, _, e2, fun σ F H Q ty c => h2 σ F H Q ty fun v F' H' d ex r ⟨p, e, h3⟩ => c v F' H' d ex r ⟨kk p, e, fun σ F H Q ty c => h3 σ F H Q ty fun v F' H' d ex r ⟨z, e3, q⟩ => c v F' H' d ex r (by
    rw [look_dA, e3]
    cases hl : lk m p <;> rw [hl] at q <;> exact q)⟩⟩) m
theorem s_dputA (i : Nat) {x : Str} {e qe : Expr} {p pos' : Pos} {α : Type} {f : α → Dt} {m : Al α} (hu : X.A.units + 1 < cLine) (hg : G[i]? = some (.ow (dA f m))) (hN : X.N[i]? = some x) (hv : Vis X.env.scope x) (hl : m.length < 100000)
    (h : E X R G e fun d => ∃ a, d = f a ∧ E X R G qe fun d' => ∃ q, d' = .key (kk q) ∧ k.nx (G.set i (.ow (dA f (put m q a)))))
    (hd : (x == ("__debug__" : Str)) = false := by decide) (hcd : (x == ("__classdict__" : Str)) = false := by decide) (hs : swapsWith e (some (.Subscript (.Name x p) qe pos')) pos.line X.env = pure false := by rfl) : S1 X R (.Assign [.Subscript (.Name x p) qe pos'] e pos) G k :=
  s_dput i hu hg hN hv (by rw [keysA_len]; exact hl) (fun σ F H Q ty c => h σ F H Q ty fun v F' H' d ex r ⟨a, e1, h2⟩ => c v F' H' d ex r fun σ F H Q ty c => h2 σ F H Q ty fun v F' H' d' ex r ⟨q, e2, hk⟩ => c v F' H' d' ex r ⟨kk q, e2, by rw [e1, put_dA]; exact hk⟩) hd hcd hs
theorem ew_disp1A {α : Type} (f : α → Dt) {ke ve : Expr} {P : Dt → Prop} (hu : X.A.units < cLine) (h : E X R G ke fun d => ∃ p, d = .key (kk p) ∧ E X R G ve fun y => ∃ a, y = f a ∧ P (dA f [(p, a)])) : EW X R G (.Dict [some ke] [ve] pos) P :=
  ew_disp1 hu fun σ F H Q ty c => h σ F H Q ty fun v F' H' d ex r ⟨p, e, h2⟩ => c v F' H' d ex r ⟨kk p, e, fun σ F H Q ty c => h2 σ F H Q ty fun v F' H' d ex r ⟨a, e2, q⟩ => c v F' H' d ex r (by rw [e2]; exact q)⟩
end
/-- the facts of class Table -/
structure TableC (K : PySem.W.Frag) (C : Addr) : Prop where
  cl : Cls K C
  na_limit : NoAttr K C "limit"
  na_looks : NoAttr K C "looks"
  na_entries : NoAttr K C "entries"
  na_reached : NoAttr K C "reached"
  na_stops : NoAttr K C "stops"
  ty : ∀ ns xs, TyD K (.obj C ns xs) (.ref C)
  self : PySem.W.kitOne K (.ref C) (.ref C) = some true
  no : ∀ T, T ∈ plainT → PySem.W.kitOne K (.type T) (.ref C) = some false ∧ PySem.W.notFirst K C (.type T) = true
theorem tableB_ok {K : PySem.W.Frag} {C : Addr} (h : tableB K C = true) : TableC K C := by
  obtain ⟨h1, h⟩ := He.ba h
  obtain ⟨h2, h⟩ := He.ba h
  obtain ⟨h3, h⟩ := He.ba h
  obtain ⟨h4, h⟩ := He.ba h
  obtain ⟨h5, h⟩ := He.ba h
  obtain ⟨h6, h⟩ := He.ba h
  obtain ⟨h7, h⟩ := He.ba h
  obtain ⟨h8, h9⟩ := He.ba h
  exact ⟨clsC_ok h1, (show PySem.W.findIn K (.ref C) "limit" = some none from of_decide_eq_true h2), (show PySem.W.findIn K (.ref C) "looks" = some none from of_decide_eq_true h3), (show PySem.W.findIn K (.ref C) "entries" = some none from of_decide_eq_true h4), (show PySem.W.findIn K (.ref C) "reached" = some none from of_decide_eq_true h5), (show PySem.W.findIn K (.ref C) "stops" = some none from of_decide_eq_true h6), tyB_ok h7 (clsC_ok h1), of_decide_eq_true h8, fun T hT => notB_ok h9 hT⟩
end VS
set_option Elab.async false
set_option linter.all false
set_option maxRecDepth 100000
/-! list(d.values()), for .. in d.items(), d a dict with tuple keys. -/
namespace VI
open PySem PySem.Spec PyProof.Rows L2
def tListValsT (te : TE) : TE := fun σ H Q => te σ H fun x H1 => ∃ (d : Addr) (kvs : List (List Key × V)), x = .ref d ∧ Rd H1 d (.dT kvs) ∧ ∀ q, H1 q = none → Q (.ref q) (upd H1 q (.lst (kvs.map (·.2))))
section
variable {X : Cx} {e : Expr} {te : TE} {p apos cpos pos : Pos}
end
section
variable {X : Cx} {pins : List (Addr × Obj)} {σ : L2.St} {H : Hp} {s : Shared} {d : Addr} {o : Obj}
end
/-- the pairs of the locked dict at d, each a new tuple -/
def Itit (d : Addr) (o : Obj) (kvs : List (List Key × V)) : It :=
  ⟨fun i H => H d = some (.frz o (.dT kvs)) ∧ i < kvs.length, fun i H x H' => ∃ (T q : Addr) (k : List Key) (v : V), kvs[i]? = some (k, v) ∧ H q = some (.tup (k.map kV)) ∧ x = .ref T ∧ H T = none ∧ H' = upd H T (.tup [.ref q, v]), fun i H => H d = some (.frz o (.dT kvs)) ∧ kvs.length ≤ i⟩
section
variable {P : Program} {w : World} {K : PySem.W.Frag} {d : Addr} {o : Obj} {es : Array DictEntry} {ep : Nat}
end
def iItemsT (td : TE) : TI := fun σ H R => td σ H fun x H1 => ∃ d o kvs, x = .ref d ∧ H1 d = some (.frz o (.dT kvs)) ∧ R (Itit d o kvs) H1
section
variable {X : Cx} {e : Expr} {td : TE} {apos cpos : Pos}
end
end VI
set_option Elab.async false
set_option linter.all false
set_option maxRecDepth 100000
/-! the same over data -/
namespace VS
open PySem PySem.Spec L2
section
variable {X : Cx} {R : Reg} {G : List Sl} {pos : Pos} {k : Kt}
/-- what the turns want -/
def Kwi (X : Cx) (R : Reg) (G : List Sl) (k : Kt) (tg : Expr) (body : List Stmt) (ks : List (List Key)) (xs : List Dt) : Prop := ∃ J : Nat → List Sl → Prop, J 0 G ∧
  (∀ i q y G, ks[i]? = some q → xs[i]? = some y → J i G → ∃ (js : List (Nat × Dt)), A X tg (.tup [.tup (q.map keyD), y]) js ∧ (∀ p ∈ js, flatD p.2 = true) ∧ S X R body (setsD G js) { k with nx := J (i + 1), ct := J (i + 1), bk := k.nx }) ∧ ∀ G, J ks.length G → k.nx G
end
end VS
set_option Elab.async false
set_option linter.all false
set_option maxRecDepth 100000
set_option maxHeartbeats 2000000
/-! methods called with keywords: o.m(k = v, ..) -/
namespace VS
open PySem PySem.Spec L2
structure FnMK (P : Program) (w : World) (K : PySem.W.Frag) (mg : Str → Option Value) (base : Heap) (k : Nat) (C : Addr) (m : Str) (ks : List Str) (gV : List V → List V → List V) (sp : Sp) : Prop where
  ex : ∃ f fd ps g, Meth K C m f ∧ KBn K fd ps 1 ks g gV ∧ FnOk P w K mg base (L2N.CX P w) k f fd ps sp
theorem FnMK.mono {P : Program} {w : World} {K : PySem.W.Frag} {mg : Str → Option Value} {base : Heap} {j k : Nat} {C : Addr} {m : Str} {ks : List Str} {gV : List V → List V → List V} {sp : Sp} (F : FnMK P w K mg base j C m ks gV sp) (h : j ≤ k) : FnMK P w K mg base k C m ks gV sp := by
  obtain ⟨f, fd, ps, g, a, b, c⟩ := F.ex
  exact ⟨f, fd, ps, g, a, b, c.mono h⟩
def tMethK (C : Addr) (m : Str) (n : Nat) (sp : Sp) (gV : List V → List V → List V) (E : XK) (ta : TE) (tk : TA) : TE := fun σ H Q => ta σ H fun x H1 => ∃ a dx fs, x = .ref a ∧ H1 a = some (.ins C dx fs) ∧ fs.lookup m = none ∧ tk σ H1 fun zs H2 => zs.length = n ∧ sp (gV [.ref a] zs) H2 Q E
section
variable {X : Cx} {R : Reg} {G : List Sl} {pos : Pos} {k : Kt}
end
end VS
set_option Elab.async false
set_option linter.all false
set_option maxRecDepth 100000
set_option maxHeartbeats 2000000
/-! functions called with two keyword-only arguments: f(e, .., k = v, l = u) -/
namespace VS
open PySem PySem.Spec L2
structure FnKK (P : Program) (w : World) (K : PySem.W.Frag) (mg : Str → Option Value) (base : Heap) (k : Nat) (x : Str) (n : Nat) (ks : List Str) (sp : Sp) : Prop where
  ex : ∃ f fd ps g, mg x = some (.ref f) ∧ PySem.W.keepIn K (.ref f) = true ∧ KBn K fd ps n ks g (fun vs zs => vs ++ zs) ∧ FnOk P w K mg base (L2N.CX P w) k f fd ps sp
theorem FnKK.mono {P : Program} {w : World} {K : PySem.W.Frag} {mg : Str → Option Value} {base : Heap} {j k : Nat} {x : Str} {n : Nat} {ks : List Str} {sp : Sp} (F : FnKK P w K mg base j x n ks sp) (h : j ≤ k) : FnKK P w K mg base k x n ks sp := by
  obtain ⟨f, fd, ps, g, a, b, c, d⟩ := F.ex
  exact ⟨f, fd, ps, g, a, b, c, d.mono h⟩
section
variable {X : Cx} {R : Reg} {G : List Sl} {pos : Pos} {k : Kt}
end
end VS
set_option Elab.async false
set_option linter.all false
set_option maxRecDepth 100000
set_option maxHeartbeats 2000000
/-! functions called with their two keyword-only arguments in the other order -/
namespace VS
open PySem PySem.Spec L2
structure FnKX (P : Program) (w : World) (K : PySem.W.Frag) (mg : Str → Option Value) (base : Heap) (k : Nat) (x : Str) (n : Nat) (ks : List Str) (sp : Sp) : Prop where
  ex : ∃ f fd ps g, mg x = some (.ref f) ∧ PySem.W.keepIn K (.ref f) = true ∧ KBn K fd ps n ks g (fun vs zs => vs ++ (zs.drop 1 ++ zs.take 1)) ∧ FnOk P w K mg base (L2N.CX P w) k f fd ps sp
theorem FnKX.mono {P : Program} {w : World} {K : PySem.W.Frag} {mg : Str → Option Value} {base : Heap} {j k : Nat} {x : Str} {n : Nat} {ks : List Str} {sp : Sp} (F : FnKX P w K mg base j x n ks sp) (h : j ≤ k) : FnKX P w K mg base k x n ks sp := by
  obtain ⟨f, fd, ps, g, a, b, c, d⟩ := F.ex
  exact ⟨f, fd, ps, g, a, b, c, d.mono h⟩
section
variable {X : Cx} {R : Reg} {G : List Sl} {pos : Pos} {k : Kt}
end
end VS
set_option Elab.async false
set_option linter.all false
set_option maxRecDepth 100000
/-! unpacking a list; a def with a star behind positional parameters. -/
namespace VS
open PySem PySem.Spec L2
section
variable {X : Cx} {R : Reg} {G : List Sl} {pos : Pos} {k : Kt}
end

/-- def f(a, .., *v): n positional parameters ahead of the star -/
def spTn (K : PySem.W.Frag) (n : Nat) (φ : Ph) : Sp := fun vs H Q E => ∃ ws rest, vs = ws ++ rest ∧ ws.length = n ∧ rest.length ≤ sizeLine ∧ ∀ p, H p = none → spD K (n + 1) φ (ws ++ [.ref p]) (upd H p (.tup rest)) Q E
structure FnT (P : Program) (w : World) (K : PySem.W.Frag) (mg : Str → Option Value) (base : Heap) (k : Nat) (x : Str) (n : Nat) (φ : Ph) : Prop where
  ex : ∃ f : Addr, mg x = some (.ref f) ∧ PySem.W.keepIn K (.ref f) = true ∧ FnR P w K mg base (L2N.CX P w) k f (spTn K n φ)
theorem FnT.mono {P : Program} {w : World} {K : PySem.W.Frag} {mg : Str → Option Value} {base : Heap} {j k : Nat} {x : Str} {n : Nat} {φ : Ph} (F : FnT P w K mg base j x n φ) (h : j ≤ k) : FnT P w K mg base k x n φ := by
  obtain ⟨f, a, b, c⟩ := F.ex
  exact ⟨f, a, b, c.mono h⟩
section
variable {X : Cx} {R : Reg} {G : List Sl} {pos : Pos} {k : Kt}
end
section
variable {P : Program} {w : World} {K : PySem.W.Frag} {mg : Str → Option Value} {base : Heap}
end
end VS
set_option Elab.async false
set_option linter.all false
set_option maxRecDepth 100000
/-! plain: stopping tables. -/
namespace VS
open PySem PySem.Spec L2
/-! counts -/
def castP (p : Nat × Nat) : Int × Int := ((p.1 : Int), (p.2 : Int))
def cnN (n : Nat) : List (Nat × Nat) := (List.range n).flatMap fun i => (List.range (i + 2)).map fun j => (j, i + 1 - j)
def cRow (t : Int) (j : Nat) : List (Int × Int) := (List.range j).map fun a => ((a : Nat) : Int) |> fun a => (a, t - a)
/-- the counts of 1 .. n tries -/
def cnt (n : Nat) : List (Int × Int) := (List.range n).flatMap fun i => cRow (1 + (i : Nat)) (i + 2)
theorem cnt_succ (n : Nat) : cnt (n + 1) = cnt n ++ cRow (1 + (n : Nat)) (n + 2) := by unfold cnt; rw [List.range_succ, List.flatMap_append]; simp
theorem cRow_succ (t : Int) (j : Nat) : cRow t (j + 1) = cRow t j ++ [((j : Int), t - j)] := by unfold cRow; rw [List.range_succ, List.map_append]; rfl
theorem mem_cRow {t : Int} {j : Nat} {p : Int × Int} : p ∈ cRow t j ↔ 0 ≤ p.1 ∧ p.1 < j ∧ p.1 + p.2 = t := by
  unfold cRow
  rw [List.mem_map]
  constructor
  · rintro ⟨a, ha, rfl⟩
    have := List.mem_range.mp ha
    exact ⟨by show (0 : Int) ≤ (a : Int); omega, by show (a : Int) < (j : Int); omega, by show (a : Int) + (t - (a : Int)) = t; omega⟩
  · rintro ⟨h0, h1, h2⟩
    refine ⟨p.1.toNat, List.mem_range.mpr (by omega), ?_⟩
    show (((p.1.toNat : Nat) : Int), t - ((p.1.toNat : Nat) : Int)) = p
    exact Prod.ext (by show ((p.1.toNat : Nat) : Int) = p.1; omega) (by show t - ((p.1.toNat : Nat) : Int) = p.2; omega)
theorem mem_cnt {n : Nat} {p : Int × Int} : p ∈ cnt n ↔ 0 ≤ p.1 ∧ 0 ≤ p.2 ∧ 1 ≤ p.1 + p.2 ∧ p.1 + p.2 ≤ n := by
  unfold cnt
  rw [List.mem_flatMap]
  constructor
  · rintro ⟨i, hi, h⟩
    have := List.mem_range.mp hi
    have := mem_cRow.mp h
    omega
  · intro h
    refine ⟨(p.1 + p.2 - 1).toNat, List.mem_range.mpr (by omega), mem_cRow.mpr ?_⟩
    omega
theorem cnt_cast (n : Nat) : cnt n = (cnN n).map castP := by
  unfold cnt cnN
  rw [List.map_flatMap]
  refine congrArg (fun f => (List.range n).flatMap f) (funext fun i => ?_)
  unfold cRow
  rw [List.map_map]
  refine List.map_congr_left fun a ha => ?_
  have := List.mem_range.mp ha
  refine Prod.ext rfl ?_
  show (1 : Int) + (i : Int) - (a : Int) = ((i + 1 - a : Nat) : Int)
  omega
theorem cnN_succ (n : Nat) : cnN (n + 1) = cnN n ++ (List.range (n + 2)).map fun j => (j, n + 1 - j) := by unfold cnN; rw [List.range_succ, List.flatMap_append]; simp
theorem cnN_pre : ∀ (k n : Nat), (cnN n).Sublist (cnN (n + k))
  | 0, n => List.Sublist.refl _
  | k + 1, n => by rw [show n + (k + 1) = (n + k) + 1 by omega, cnN_succ]; exact (cnN_pre k n).trans (List.sublist_append_left _ _)
theorem cnN_spots {n : Nat} (h : n ≤ 30) : (cnN n).Sublist spots := by
  have e : spots = (0, 0) :: cnN 30 := by decide +kernel
  have h2 := cnN_pre (30 - n) n
  rw [show n + (30 - n) = 30 by omega] at h2
  rw [e]
  exact h2.cons _
theorem castP_inj {p q : Nat × Nat} (h : castP p = castP q) : p = q := by
  have h1 : ((p.1 : Nat) : Int) = (q.1 : Nat) := congrArg Prod.fst h
  have h2 : ((p.2 : Nat) : Int) = (q.2 : Nat) := congrArg Prod.snd h
  exact Prod.ext (by omega) (by omega)
theorem cRow_nd (t : Int) (j : Nat) : (cRow t j).Nodup := by
  induction j with
  | zero => exact List.nodup_nil
  | succ j ih =>
    rw [cRow_succ, List.nodup_append]
    refine ⟨ih, by simp, ?_⟩
    intro a ha b hb e
    have := mem_cRow.mp ha
    rw [List.mem_singleton] at hb
    subst e hb
    simp at this
theorem cnt_nd (n : Nat) : (cnt n).Nodup := by
  induction n with
  | zero => exact List.nodup_nil
  | succ n ih =>
    rw [cnt_succ, List.nodup_append]
    refine ⟨ih, cRow_nd _ _, ?_⟩
    intro a ha b hb e
    have h1 := mem_cnt.mp ha
    have h2 := mem_cRow.mp hb
    subst e
    omega
theorem cnt_len {n : Nat} (h : n ≤ 30) : (cnt n).length ≤ 500 := by
  rw [cnt_cast, List.length_map]
  have := (cnN_spots h).length_le
  have e : spots.length = 496 := by decide +kernel
  omega
/-! ways -/
def stepM (go : Int × Int → Bool) (m : Al Int) (c : Int × Int) : Al Int := match lk m c with
  | none => m
  | some v => if go c = true then
      let m1 := put m (c.1 + 1, c.2) ((lk m (c.1 + 1, c.2)).getD 0 + v)
      put m1 (c.1, c.2 + 1) ((lk m1 (c.1, c.2 + 1)).getD 0 + v)
    else m
theorem stepM_none {go : Int × Int → Bool} {m : Al Int} {c : Int × Int} (h : lk m c = none) : stepM go m c = m := by unfold stepM; rw [h]
theorem stepM_stop {go : Int × Int → Bool} {m : Al Int} {c : Int × Int} (h : go c = false) : stepM go m c = m := by
  unfold stepM
  split
  · rfl
  · rw [if_neg (by rw [h]; decide)]
theorem stepM_go {go : Int × Int → Bool} {m : Al Int} {c : Int × Int} {v : Int} (h : lk m c = some v) (hg : go c = true) : stepM go m c = put (put m (c.1 + 1, c.2) ((lk m (c.1 + 1, c.2)).getD 0 + v)) (c.1, c.2 + 1) ((lk (put m (c.1 + 1, c.2) ((lk m (c.1 + 1, c.2)).getD 0 + v)) (c.1, c.2 + 1)).getD 0 + v) := by
  unfold stepM
  rw [h]
  dsimp only
  rw [if_pos hg]
theorem stepM_len (go : Int × Int → Bool) (m : Al Int) (c : Int × Int) : (stepM go m c).length ≤ m.length + 2 := by
  unfold stepM
  split
  · omega
  · split
    · rename_i v _ _
      have h1 := put_len m (c.1 + 1, c.2) ((lk m (c.1 + 1, c.2)).getD 0 + v)
      have h2 := put_len (put m (c.1 + 1, c.2) ((lk m (c.1 + 1, c.2)).getD 0 + v)) (c.1, c.2 + 1) ((lk (put m (c.1 + 1, c.2) ((lk m (c.1 + 1, c.2)).getD 0 + v)) (c.1, c.2 + 1)).getD 0 + v)
      dsimp only
      omega
    · omega
def sRow (w t : Int) (j : Nat) : List (Int × Int) := (List.range j).map fun a => (w + (a : Nat), t - (w + (a : Nat)))
/-- the cells that are gone through -/
def sCells (w l : Int) (n : Nat) : List (Int × Int) := (List.range n).flatMap fun i => sRow w (w + l + (i : Nat)) (w + l + (i : Nat) - l + 1 - w).toNat
def sprI (go : Int × Int → Bool) (w l : Int) (n : Nat) : Al Int := (sCells w l n).foldl (stepM go) [((w, l), 1)]
theorem sRow_succ (w t : Int) (j : Nat) : sRow w t (j + 1) = sRow w t j ++ [(w + (j : Nat), t - (w + (j : Nat)))] := by unfold sRow; rw [List.range_succ, List.map_append]; rfl
theorem sprI_succ (go : Int × Int → Bool) (w l : Int) (n : Nat) : sprI go w l (n + 1) = (sRow w (w + l + (n : Nat)) (w + l + (n : Nat) - l + 1 - w).toNat).foldl (stepM go) (sprI go w l n) := by
  unfold sprI sCells
  rw [List.range_succ, List.flatMap_append, List.foldl_append]
  simp
theorem fold_len (go : Int × Int → Bool) : ∀ (L : List (Int × Int)) (m : Al Int), (L.foldl (stepM go) m).length ≤ m.length + 2 * L.length
  | [], m => by simp
  | c :: L, m => by
    have h1 := fold_len go L (stepM go m c)
    have h2 := stepM_len go m c
    simp only [List.foldl_cons, List.length_cons]
    omega
theorem sRow_len (w t : Int) (j : Nat) : (sRow w t j).length = j := by unfold sRow; simp
theorem sCells_len (w l : Int) : ∀ n : Nat, n ≤ 31 → (sCells w l n).length ≤ n * 40
  | 0, _ => by simp [sCells]
  | n + 1, h => by
    have ih := sCells_len w l n (by omega)
    have e : sCells w l (n + 1) = sCells w l n ++ sRow w (w + l + (n : Nat)) (w + l + (n : Nat) - l + 1 - w).toNat := by unfold sCells; rw [List.range_succ, List.flatMap_append]; simp
    rw [e, List.length_append, sRow_len]
    omega
theorem spr_len (go : Int × Int → Bool) {w l : Int} {n j : Nat} (h : n ≤ 31) (hj : j ≤ 40) {t : Int} : ((sRow w t j).foldl (stepM go) (sprI go w l n)).length ≤ 5000 := by
  have h1 := fold_len go (sRow w t j) (sprI go w l n)
  have h2 := fold_len go (sCells w l n) [((w, l), 1)]
  have h3 := sCells_len w l n h
  rw [sRow_len] at h1
  have h4 : (sprI go w l n).length ≤ 1 + 2 * (sCells w l n).length := h2
  omega
/-! the sum over all cells -/
def sumL (f : Int × Int → Int) : List (Int × Int) → Int
  | [] => 0
  | p :: L => f p + sumL f L
def pw2 (lim : Nat) (p : Int × Int) : Int := 2 ^ (lim - (p.1 + p.2).toNat)
/-- what is not gone through yet, and the ends -/
def wt (lim : Nat) (go : Int × Int → Bool) (D : List (Int × Int)) (p : Int × Int) : Int := if p ∈ D ∧ go p = true then 0 else pw2 lim p
def totA (lim : Nat) (go : Int × Int → Bool) (D : List (Int × Int)) (m : Al Int) : Int := sumL (fun p => wt lim go D p * (lk m p).getD 0) ((0, 0) :: cnt lim)
end VS
set_option Elab.async false
set_option linter.all false
set_option maxRecDepth 100000
/-! plain: what a table is, and what the law counts. -/
namespace VS
open PySem PySem.Spec L2
def inI (l : List Int) (t : Int) : Bool := l.any fun z => decide (z = t)
def entStep (rl : Al Str) (m : Al Str) (c : Int × Int) : Al Str := match lk rl c with
  | some x => put m c x
  | none => m
def entOf (rl : Al Str) (n : Nat) : Al Str := (cnt n).foldl (entStep rl) []
structure Tb where
  lim : Nat
  looks : List Int
  ent : Al Str
namespace Tb
def isEnd (T : Tb) (c : Int × Int) : Bool := inI T.looks (c.1 + c.2) && has T.ent c
def go (T : Tb) (s c : Int × Int) : Bool := decide (c = s) || !T.isEnd c
def reached (T : Tb) : Al Int := sprI (T.go (0, 0)) 0 0 T.lim
def isIn (T : Tb) (c : Int × Int) : Bool := has T.reached c && T.isEnd c
def word (T : Tb) (c : Int × Int) : Str := (lk T.ent c).getD Str.empty
def stops (T : Tb) : List ((Int × Int) × Str) := ((cnt T.lim).filter T.isIn).map fun c => (c, T.word c)
end Tb
def mkT (lim : Nat) (looks : List Int) (rl : Al Str) : Tb := ⟨lim, looks, entOf rl lim⟩
def stD (e : (Int × Int) × Str) : Dt := .tup [.int e.1.1, .int e.1.2, .str e.2]
/-- a table's data, some fields to come -/
abbrev tb3 (C : Addr) (T : Tb) (ns : List Str) (xs : List Dt) : Dt := .obj C ("limit" :: "looks" :: "entries" :: ns) (.int (T.lim : Nat) :: .tup (T.looks.map .int) :: dA .str T.ent :: xs)
abbrev tb4 (C : Addr) (T : Tb) (ns : List Str) (xs : List Dt) : Dt := tb3 C T ("reached" :: ns) (dA .int T.reached :: xs)
abbrev tabD (C : Addr) (T : Tb) : Dt := tb4 C T ["stops"] [.lst (T.stops.map stD)]
theorem ent_fold (rl : Al Str) (c : Int × Int) : ∀ (L : List (Int × Int)) (m : Al Str), lk (L.foldl (entStep rl) m) c = if c ∈ L ∧ has rl c = true then lk rl c else lk m c
  | [], m => by rw [if_neg (fun z => by cases z.1)]; rfl
  | a :: L, m => by
    rw [List.foldl_cons, ent_fold rl c L]
    unfold entStep
    cases h : lk rl a with
    | none =>
      dsimp only
      by_cases e : c ∈ L ∧ has rl c = true
      · rw [if_pos e, if_pos ⟨List.mem_cons_of_mem _ e.1, e.2⟩]
      · rw [if_neg e, if_neg]
        rintro ⟨z, y⟩
        cases z with
        | head => unfold has at y; rw [h] at y; cases y
        | tail _ z => exact e ⟨z, y⟩
    | some x =>
      dsimp only
      by_cases e : c ∈ L ∧ has rl c = true
      · rw [if_pos e, if_pos ⟨List.mem_cons_of_mem _ e.1, e.2⟩]
      · rw [if_neg e, lk_put]
        by_cases e2 : a = c
        · subst e2
          rw [if_pos rfl, if_pos ⟨List.mem_cons_self, by unfold has; rw [h]; rfl⟩, h]
        · rw [if_neg e2, if_neg]
          rintro ⟨z, y⟩
          cases z with
          | head => exact e2 rfl
          | tail _ z => exact e ⟨z, y⟩
/-- a word that read_word reads -/
def WdF (x : Str) : Prop := x = Str.ofString "no word" ∨ ∃ (k : Str) (n d : Nat), IsKind k ∧ 0 < n ∧ n < d ∧ d < 10 ^ 30 ∧ Nat.gcd n d = 1 ∧ x = SX.S (wordL k n d)
def Wd (x : Str) : Prop := WdF x ∧ PyData.strOk x = true
/-- a word with a small share -/
def SmW (x : Str) : Prop := x = Str.ofString "no word" ∨ ∃ (k : Str) (n d : Nat), IsKind k ∧ 0 < n ∧ n < d ∧ d ≤ 20 ∧ Nat.gcd n d = 1 ∧ x = SX.S (wordL k n d)
/-- a rule with few words, all of them small -/
def Few (rl : Al Str) : Prop := ∃ mn : List Str, mn.length ≤ 8 ∧ (∀ e ∈ rl, e.2 ∈ mn) ∧ ∀ x ∈ mn, SmW x
/-- the parts are a table -/
structure Vr (lim : Nat) (looks : List Int) (rl : Al Str) : Prop where
  l1 : 1 ≤ lim
  l30 : lim ≤ 30
  len : looks.length ≤ 30
  asc : looks.Pairwise (· < ·)
  one : ∀ z ∈ looks, 1 ≤ z
  last : ∃ l', looks = l' ++ [(lim : Int)]
  keys : ∀ e ∈ rl, 0 ≤ e.1.1 ∧ 0 ≤ e.1.2 ∧ 1 ≤ e.1.1 + e.1.2 ∧ e.1.1 + e.1.2 ≤ lim
  words : ∀ e ∈ rl, Wd e.2
  full : ∀ j : Nat, j ≤ lim → has rl ((j : Int), (lim : Int) - j) = true
/-- at most three words -/
def Few3 (rl : Al Str) : Prop := ∃ mn : List Str, mn.length ≤ 3 ∧ (∀ e ∈ rl, e.2 ∈ mn) ∧ ∀ x ∈ mn, SmW x
/-- the same with its counts in order -/
structure Vt (lim : Nat) (looks : List Int) (rl : Al Str) : Prop extends Vr lim looks rl where
  ord : ∃ ks : List (Nat × Nat), ks.Sublist (cnN lim) ∧ rl.map (·.1) = ks.map castP
theorem lk_ent {lim : Nat} {rl : Al Str} (h : ∀ e ∈ rl, 0 ≤ e.1.1 ∧ 0 ≤ e.1.2 ∧ 1 ≤ e.1.1 + e.1.2 ∧ e.1.1 + e.1.2 ≤ lim) (c : Int × Int) : lk (entOf rl lim) c = lk rl c := by
  unfold entOf
  rw [ent_fold]
  by_cases e : c ∈ cnt lim ∧ has rl c = true
  · rw [if_pos e]
  · rw [if_neg e]
    cases z : lk rl c with
    | none => rfl
    | some x =>
      refine absurd ⟨mem_cnt.mpr ?_, by unfold has; rw [z]; rfl⟩ e
      exact h _ (lk_mem z)
theorem has_ent {lim : Nat} {rl : Al Str} (h : ∀ e ∈ rl, 0 ≤ e.1.1 ∧ 0 ≤ e.1.2 ∧ 1 ≤ e.1.1 + e.1.2 ∧ e.1.1 + e.1.2 ≤ lim) (c : Int × Int) : has (entOf rl lim) c = has rl c := by unfold has; rw [lk_ent h]
/-! the law's counting -/
def stopL (looks : List Int) (rl : Al Str) (c : Int × Int) : Bool := inI looks (c.1 + c.2) && has rl c
def wysL (lim : Nat) (looks : List Int) (rl : Al Str) : Al Int := sprI (fun c => !stopL looks rl c) 0 0 lim
def endP (lim : Nat) (looks : List Int) (rl : Al Str) (c : Int × Int) : Bool := stopL looks rl c && has (wysL lim looks rl) c
def enV (lim : Nat) (looks : List Int) (rl : Al Str) (c : Int × Int) : Dt := .tup [.int c.1, .int c.2, .str ((lk rl c).getD Str.empty), .int ((lk (wysL lim looks rl) c).getD 0)]
/-- the law's ends -/
def endC (lim : Nat) (looks : List Int) (rl : Al Str) : List (Int × Int) := (cnt lim).filter (endP lim looks rl)
theorem isEnd_mk {lim : Nat} {looks : List Int} {rl : Al Str} (h : Vr lim looks rl) (c : Int × Int) : (mkT lim looks rl).isEnd c = stopL looks rl c := by
  unfold Tb.isEnd stopL mkT
  rw [has_ent h.keys]
/-! promises -/
abbrev ptD (lim : Nat) (looks : List Int) (rl : Al Str) : Dt := .tup [.int (lim : Nat), .lst (looks.map .int), dA .str rl]
def ph__law_word : Ph := fun ds q _ => ds = [] ∧ ∀ x, Wd x → SmW x → q (.str x)
theorem u__law_word {q : Dt → Prop} {x : XD} (_ : True) (p : ∀ x, Wd x → SmW x → q (.str x)) : ph__law_word [] q x := ⟨rfl, p⟩
def ph__law_parts : Ph := fun ds q _ => ∃ m : Int, ds = [.int m] ∧ (0 < m ∧ m ≤ 30) ∧ ∀ lim looks rl, Vt lim looks rl → (lim : Int) ≤ m → Few3 rl → q (ptD lim looks rl)
theorem u__law_parts {m : Int} {q : Dt → Prop} {x : XD} (h : 0 < m ∧ m ≤ 30) (p : ∀ lim looks rl, Vt lim looks rl → (lim : Int) ≤ m → Few3 rl → q (ptD lim looks rl)) : ph__law_parts [.int m] q x := ⟨m, rfl, h, p⟩
def ph_check_table : Ph := fun ds q _ => ∃ lim looks rl, ds = [.int (lim : Nat), .lst (looks.map .int), dA .str rl] ∧ Vr lim looks rl ∧ q .non
def ph_Table___init__ (C : Addr) : Ph := fun ds q _ => ∃ lim looks rl, ds = [.int (lim : Nat), .lst (looks.map .int), dA .str rl] ∧ Vr lim looks rl ∧ q (tabD C (mkT lim looks rl))
def ph__law_table (C : Addr) : Ph := fun ds q _ => ∃ lim looks rl, ds = [ptD lim looks rl] ∧ Vt lim looks rl ∧ q (tabD C (mkT lim looks rl))
def ph__law_ways : Ph := fun ds q _ => ∃ lim looks rl, ds = [ptD lim looks rl] ∧ Vt lim looks rl ∧ q (dA .int (wysL lim looks rl))
def ph__law_ends : Ph := fun ds q _ => ∃ lim looks rl, ds = [ptD lim looks rl] ∧ Vt lim looks rl ∧ q (.lst ((endC lim looks rl).map (enV lim looks rl)))
def ph_Table_is_end (C : Addr) : Ph := fun ds q _ => ∃ T ns xs w l, ds = [tb3 C T ns xs, .int w, .int l] ∧ q (.bl (T.isEnd (w, l)))
theorem u_Table_is_end {C : Addr} {T : Tb} {ns : List Str} {xs : List Dt} {w l : Int} {q : Dt → Prop} {x : XD} (_ : True) (p : q (.bl (T.isEnd (w, l)))) : ph_Table_is_end C [tb3 C T ns xs, .int w, .int l] q x := ⟨_, _, _, _, _, rfl, p⟩
def noE (ns : List Str) : Prop := (ns.any fun z => z == ("is_end" : Str)) = false
def ph_Table_spread (C : Addr) : Ph := fun ds q _ => ∃ T ns xs w l, ds = [tb3 C T ns xs, .int w, .int l] ∧ (noE ns ∧ T.lim ≤ 30 ∧ 0 ≤ w ∧ 0 ≤ l ∧ w + l ≤ 1000) ∧ q (dA .int (sprI (T.go (w, l)) w l (T.lim - (w + l)).toNat))
theorem u_Table_spread {C : Addr} {T : Tb} {ns : List Str} {xs : List Dt} {w l : Int} {q : Dt → Prop} {x : XD} (h : noE ns ∧ T.lim ≤ 30 ∧ 0 ≤ w ∧ 0 ≤ l ∧ w + l ≤ 1000) (p : q (dA .int (sprI (T.go (w, l)) w l (T.lim - (w + l)).toNat))) : ph_Table_spread C [tb3 C T ns xs, .int w, .int l] q x := ⟨_, _, _, _, _, rfl, h, p⟩
def ph_Table___contains__ (C : Addr) : Ph := fun ds q _ => ∃ T ns xs c, ds = [tb4 C T ns xs, .key (kk c)] ∧ noE ns ∧ q (.bl (T.isIn c))
theorem u_Table___contains__ {C : Addr} {T : Tb} {ns : List Str} {xs : List Dt} {c : Int × Int} {q : Dt → Prop} {x : XD} (h : noE ns) (p : q (.bl (T.isIn c))) : ph_Table___contains__ C [tb4 C T ns xs, .key (kk c)] q x := ⟨_, _, _, _, rfl, h, p⟩
def ph_Table_ways (C : Addr) : Ph := fun ds q _ => ∃ T w l, ds = [tabD C T, .int w, .int l] ∧ q (.int ((lk T.reached (w, l)).getD 0))
def ph_Table_ends (C : Addr) : Ph := fun ds q _ => ∃ T, ds = [tabD C T] ∧ q (.lst (T.stops.map stD))
def ph_Table___len__ (C : Addr) : Ph := fun ds q _ => ∃ T, ds = [tabD C T] ∧ q (.int (T.stops.length : Nat))
/-- words in the order of their first occurrence -/
def addW (l : List Str) (x : Str) : List Str := if x ∈ l then l else l ++ [x]
def wordsT (l : List ((Int × Int) × Str)) : List Str := l.foldl (fun a e => addW a e.2) []
def okSt (T : Tb) : Prop := (∀ e ∈ T.stops, PyData.strOk e.2 = true) ∧ T.stops.length ≤ 1000
def ph_Table_words (C : Addr) : Ph := fun ds q _ => ∃ T, ds = [tabD C T] ∧ okSt T ∧ q (.tup ((wordsT T.stops).map .str))
theorem eqD_str (a b : Str) : eqD (.str a) (.str b) = decide (a = b) := by
  unfold eqD
  simp only [toP, PyData.eqv]
  rw [Bool.eq_iff_iff]
  simp
theorem any_str (x : Str) (l : List Str) : ((l.map Dt.str).any fun z => eqD z (.str x)) = decide (x ∈ l) := by
  induction l with
  | nil => simp
  | cons a l ih =>
    rw [List.map_cons, List.any_cons, ih, eqD_str]
    by_cases h : a = x
    · simp [h]
    · have h' : ¬ x = a := fun z => h z.symm
      simp [h, h']
theorem ok_strs {l : List Str} (h : ∀ x ∈ l, PyData.strOk x = true) : okD (.lst (l.map .str)) = true := by
  show ((l.map Dt.str).all (okN 11)) = true
  rw [List.all_eq_true]
  intro d hd
  obtain ⟨x, hx, rfl⟩ := List.mem_map.mp hd
  exact h x hx
theorem map_bl {α : Type} (g : α → Bool) (l : List α) : (l.map fun i => Dt.bl (g i)) = (l.map g).map Dt.bl := by rw [List.map_map]; rfl
theorem at_lastC (l : List Int) (z : Int) : atI ((l ++ [z]).map Dt.int) (-1) = some (.int z) := by
  unfold atI ixN
  simp
  rw [if_pos (by omega)]
  show (l.map Dt.int ++ [Dt.int z])[(-1 + ((l.length : Int) + 1)).toNat]? = _
  rw [show (-1 + ((l.length : Int) + 1)).toNat = (l.map Dt.int).length by rw [List.length_map]; omega, List.getElem?_concat_length]
theorem fre_stops (κ : Nat) (l : List ((Int × Int) × Str)) : freL κ (l.map stD) = true := by
  induction l with
  | nil => rfl
  | cons e l ih => show (fre κ (stD e) && freL κ _) = true; rw [ih]; rfl
theorem fre_dA_int {m : Al Int} : fre 2 (dA .int m) = true := fre_ints 2 (fun e : (Int × Int) × Int => e.2) m
theorem take_get {α : Type} {L : List α} {i : Nat} {c : α} (h : L[i]? = some c) : L.take (i + 1) = L.take i ++ [c] := by
  rw [List.take_succ, h]; rfl
theorem isIn_word {T : Tb} {c : Int × Int} (h : T.isIn c = true) : lk T.ent c = some (T.word c) := by
  unfold Tb.isIn Tb.isEnd at h
  rw [Bool.and_eq_true, Bool.and_eq_true] at h
  obtain ⟨x, hx⟩ := Option.isSome_iff_exists.mp h.2.2
  unfold Tb.word
  rw [hx]; rfl
theorem strs_of {p : Str → Prop} : ∀ {acc : List Dt}, (∀ y ∈ acc, ∃ x : Str, y = .str x ∧ p x) → ∃ l : List Str, acc = l.map .str ∧ l.length = acc.length ∧ ∀ x ∈ l, p x
  | [], _ => ⟨[], rfl, rfl, fun _ h => by cases h⟩
  | a :: acc, h => by
    obtain ⟨x, rfl, px⟩ := h a List.mem_cons_self
    obtain ⟨l, rfl, hl, hp⟩ := strs_of (acc := acc) fun y hy => h y (List.mem_cons_of_mem _ hy)
    refine ⟨x :: l, rfl, by simp, fun z hz => ?_⟩
    cases hz with
    | head => exact px
    | tail _ hz => exact hp z hz
theorem strOk_S {l : List Nat} (h : ∀ c ∈ l, c < 0x110000) : PyData.strOk (SX.S l) = true := by
  unfold PyData.strOk
  rw [Array.all_eq_true]
  intro i hi
  have : (SX.S l).cps[i] ∈ (SX.S l).cps.toList := Array.mem_toList_iff.mpr (Array.getElem_mem hi)
  exact decide_eq_true (h _ this)
theorem wordL_ok {k : Str} (hk : IsKind k) (n d : Nat) : PyData.strOk (SX.S (wordL k n d)) = true := by
  refine strOk_S fun c hc => ?_
  unfold wordL at hc
  rw [List.mem_append, List.mem_cons, List.mem_append, List.mem_cons] at hc
  rcases hc with h | h | h | h | h
  · have := hk.ok
    unfold PyData.strOk at this
    rw [Array.all_eq_true] at this
    obtain ⟨i, hi, e⟩ := List.getElem_of_mem h
    have := this i (by simpa using hi)
    rw [← e]
    simpa using of_decide_eq_true this
  · omega
  · have := TL.numL_digits n c h; omega
  · omega
  · have := TL.numL_digits d c h; omega
theorem wd_k {k : Str} (hk : IsKind k) {n d : Nat} (hn : 0 < n) (hnd : n < d) (hd : d < 10 ^ 30) (hg : Nat.gcd n d = 1) : Wd (SX.S (wordL k n d)) := ⟨.inr ⟨k, n, d, hk, hn, hnd, hd, hg, rfl⟩, wordL_ok hk n d⟩
theorem wd_no : Wd (Str.ofString "no word") := ⟨.inl rfl, by decide +kernel⟩
theorem Wd.rd {x : Str} (h : Wd x) : ∃ l w, x = SX.S l ∧ l.length ≤ 90000 ∧ rdWord l = some w := by
  rcases h.1 with rfl | ⟨k, n, d, hk, hn, hnd, hd, hg, rfl⟩
  · refine ⟨(Str.ofString "no word").cps.toList, (Str.ofString "no word", none), (SX.S_tl _).symm, by decide, ?_⟩
    unfold rdWord
    rw [if_pos (SX.S_tl _)]
  · refine ⟨_, (k, some ((n : Int), (d : Int))), rfl, ?_, ?_⟩
    · exact Nat.le_trans (wordL_len hk (by omega) (by omega)) (by decide)
    · rw [rdWord_k hk, rdShare_num hn hnd hd hg]; rfl
/-! the law's rule as it is drawn -/
def RlOk (L : List (Nat × Nat)) (rl : Al Str) : Prop := ∃ ks : List (Nat × Nat), ks.Sublist L ∧ rl.map (·.1) = ks.map castP ∧ ∀ e ∈ rl, Wd e.2
def nRow (i j : Nat) : List (Nat × Nat) := (List.range j).map fun a => (a, i + 1 - a)
theorem nRow_succ (i j : Nat) : nRow i (j + 1) = nRow i j ++ [(j, i + 1 - j)] := by unfold nRow; rw [List.range_succ, List.map_append]; rfl
theorem RlOk.nil : RlOk (cnN 0) [] := ⟨[], List.Sublist.refl _, rfl, fun _ h => by cases h⟩
theorem RlOk.skip {L : List (Nat × Nat)} {rl : Al Str} (h : RlOk L rl) (c : Nat × Nat) : RlOk (L ++ [c]) rl := by
  obtain ⟨ks, a, b, d⟩ := h
  exact ⟨ks, a.trans (List.sublist_append_left _ _), b, d⟩
theorem lk_none {α : Type} {p : Int × Int} : ∀ {m : Al α}, p ∉ m.map (·.1) → lk m p = none
  | [], _ => rfl
  | e :: m, h => by
    unfold lk
    rw [if_neg (fun z => h (by rw [List.map_cons, z]; exact List.mem_cons_self))]
    exact lk_none fun z => h (by rw [List.map_cons]; exact List.mem_cons_of_mem _ z)
theorem RlOk.add {L : List (Nat × Nat)} {rl : Al Str} (h : RlOk L rl) {c : Nat × Nat} (hc : c ∉ L) {x : Str} (hx : Wd x) : RlOk (L ++ [c]) (put rl (castP c) x) ∧ put rl (castP c) x = rl ++ [(castP c, x)] := by
  obtain ⟨ks, a, b, d⟩ := h
  have e : put rl (castP c) x = rl ++ [(castP c, x)] := by
    unfold put
    rw [if_neg]
    unfold has
    rw [lk_none]
    · decide
    · rw [b]
      intro z
      obtain ⟨p, hp, ep⟩ := List.mem_map.mp z
      rw [castP_inj ep] at hp
      exact hc (a.subset hp)
  refine ⟨?_, e⟩
  rw [e]
  refine ⟨ks ++ [c], a.append (List.Sublist.refl _), by rw [List.map_append, List.map_append, b]; rfl, fun z hz => ?_⟩
  rcases List.mem_append.mp hz with hz | hz
  · exact d z hz
  · rw [List.mem_singleton.mp hz]; exact hx
/-- the same, all words from a menu -/
def RlM (mn : List Str) (L : List (Nat × Nat)) (rl : Al Str) : Prop := RlOk L rl ∧ ∀ e ∈ rl, e.2 ∈ mn
theorem RlM.nil {mn : List Str} : RlM mn (cnN 0) [] := ⟨RlOk.nil, fun _ h => by cases h⟩
theorem RlM.skip {mn : List Str} {L : List (Nat × Nat)} {rl : Al Str} (h : RlM mn L rl) (c : Nat × Nat) : RlM mn (L ++ [c]) rl := ⟨h.1.skip c, h.2⟩
theorem RlM.add {mn : List Str} {L : List (Nat × Nat)} {rl : Al Str} (h : RlM mn L rl) {c : Nat × Nat} (hc : c ∉ L) {x : Str} (hm : x ∈ mn) (hx : Wd x) : RlM mn (L ++ [c]) (put rl (castP c) x) := by
  obtain ⟨a, b⟩ := h.1.add hc hx
  refine ⟨a, fun e he => ?_⟩
  rw [b] at he
  rcases List.mem_append.mp he with he | he
  · exact h.2 e he
  · rw [List.mem_singleton.mp he]; exact hm
theorem RlOk.len {L : List (Nat × Nat)} {rl : Al Str} (h : RlOk L rl) : rl.length ≤ L.length := by
  obtain ⟨ks, a, b, _⟩ := h
  have e : (rl.map (·.1)).length = (ks.map castP).length := by rw [b]
  rw [List.length_map, List.length_map] at e
  have := a.length_le
  omega
theorem nRow_new {i j : Nat} (hj : j ≤ i + 1) : (j, i + 1 - j) ∉ cnN i ++ nRow i j := by
  rw [List.mem_append]
  rintro (h | h)
  · have : castP (j, i + 1 - j) ∈ cnt i := by rw [cnt_cast]; exact List.mem_map_of_mem h
    have := mem_cnt.mp this
    have h2 : ((castP (j, i + 1 - j)).1 : Int) + (castP (j, i + 1 - j)).2 = (j : Int) + ((i + 1 - j : Nat) : Int) := rfl
    omega
  · unfold nRow at h
    obtain ⟨a, ha, e⟩ := List.mem_map.mp h
    have := List.mem_range.mp ha
    have : a = j := congrArg Prod.fst e
    omega
theorem has_put {α : Type} {m : Al α} {p q : Int × Int} {a : α} (h : has m q = true ∨ p = q) : has (put m p a) q = true := by
  unfold has
  rw [lk_put]
  by_cases e : p = q
  · rw [if_pos e]; rfl
  · rw [if_neg e]
    rcases h with h | h
    · exact h
    · exact absurd h e
theorem rl_lens {i j : Nat} {rl : Al Str} (h : RlOk (cnN i ++ nRow i j) rl) (hi : i ≤ 30) (hj : j ≤ 31) : rl.length < 100000 := by
  have h1 := h.len
  have h2 := cnt_len hi
  rw [cnt_cast, List.length_map] at h2
  rw [List.length_append] at h1
  have h3 : (nRow i j).length = j := by unfold nRow; simp
  omega
theorem vt_of {lim : Nat} {l : List Int} {rl : Al Str} (h1 : 1 ≤ lim) (h30 : lim ≤ 30) (hp : l.Pairwise (· < ·)) (hb : ∀ z ∈ l, 1 ≤ z ∧ z < lim) (hl : l.length < lim) (hr : RlOk (cnN lim) rl) (hf : ∀ j : Nat, j ≤ lim → has rl ((j : Int), (lim : Int) - j) = true) : Vt lim (l ++ [(lim : Int)]) rl := by
  obtain ⟨ks, a, b, d⟩ := hr
  refine ⟨⟨h1, h30, by rw [List.length_append]; show l.length + 1 ≤ 30; omega, ?_, ?_, ⟨l, rfl⟩, ?_, d, hf⟩, ⟨ks, a, b⟩⟩
  · rw [List.pairwise_append]
    refine ⟨hp, List.pairwise_singleton _ _, fun x hx y hy => ?_⟩
    rw [List.mem_singleton.mp hy]
    exact (hb x hx).2
  · intro z hz
    rcases List.mem_append.mp hz with hz | hz
    · exact (hb z hz).1
    · rw [List.mem_singleton.mp hz]; omega
  · intro e he
    have : e.1 ∈ rl.map (·.1) := List.mem_map_of_mem he
    rw [b] at this
    obtain ⟨p, hp, ep⟩ := List.mem_map.mp this
    have : e.1 ∈ cnt lim := by rw [cnt_cast, ← ep]; exact List.mem_map_of_mem (a.subset hp)
    exact mem_cnt.mp this
/-! for the laws -/
theorem ok_pairs (l : List (Int × Int)) : okD (.lst (l.map ratD)) = true := by
  show ((l.map ratD).all (okN 11)) = true
  rw [List.all_eq_true]
  intro d hd
  obtain ⟨x, hx, rfl⟩ := List.mem_map.mp hd
  rfl
end VS
set_option Elab.async false
set_option linter.all false
set_option maxRecDepth 100000
/-! plain: chances and costs of tables. -/
namespace VS
open PySem PySem.Spec L2
/-- what a sum of paths comes to -/
def accS (f : Int × Int → Int) (a : List Int) (c : Int × Int) : List Int := trimL (addL a (trimL (scL (f c) (pathL c.1.toNat c.2.toNat))))
def accP (f : Int × Int → Int) (L : List (Int × Int)) : List Int := L.foldl (accS f) []
/-! tables whose sums are small -/
structure OkT (T : Tb) : Prop where
  lim : T.lim ≤ 30
  looks : T.looks.length ≤ 30
  stops : ∀ e ∈ T.stops, 0 ≤ e.1.1 ∧ 0 ≤ e.1.2 ∧ e.1.1 + e.1.2 ≤ 30 ∧ 0 ≤ (lk T.reached e.1).getD 0 ∧ (lk T.reached e.1).getD 0 ≤ 2 ^ 30
  st : okSt T
def cntL (looks : List Int) (t : Int) : Nat := (looks.filter fun z => decide (z ≤ t)).length
def wayF (T : Tb) (c : Int × Int) : Int := (lk T.reached c).getD 0
def costF (T : Tb) (a b : Int) (c : Int × Int) : Int := (a * (c.1 + c.2) + b * (cntL T.looks (c.1 + c.2) : Nat)) * wayF T c
abbrev ends_ (T : Tb) : List (Int × Int) := T.stops.map (·.1)
def ph_Table_mean_cost (C CP : Addr) : Ph := fun ds q _ => ∃ T a b, ds = [tabD C T, .int a, .int b] ∧ (OkT T ∧ a.natAbs ≤ 2 ^ 20 ∧ b.natAbs ≤ 2 ^ 20) ∧ q (polD CP (accP (costF T a b) (ends_ T)))
def ph_Table_mean_length (C CP : Addr) : Ph := fun ds q _ => ∃ T, ds = [tabD C T] ∧ OkT T ∧ q (polD CP (accP (costF T 1 0) (ends_ T)))
def sayL (T : Tb) (x : Str) : List (Int × Int) := (T.stops.filter fun e => decide (e.2 = x)).map (·.1)
def ph_Table_chance (C CP : Addr) : Ph := fun ds q _ => ∃ T x, ds = [tabD C T, .str x] ∧ OkT T ∧ q (polD CP (accP (wayF T) (sayL T x)))
def ph__law_cost : Ph := fun ds q _ => ∃ lim looks rl a b, ds = [ptD lim looks rl, .int a, .int b] ∧ (Vt lim looks rl ∧ a.natAbs ≤ 2 ^ 20 ∧ b.natAbs ≤ 2 ^ 20) ∧ q (iL (accP (costF (mkT lim looks rl) a b) (endC lim looks rl)))
def ph__law_length : Ph := fun ds q _ => ∃ lim looks rl, ds = [ptD lim looks rl] ∧ Vt lim looks rl ∧ q (iL (accP (costF (mkT lim looks rl) 1 0) (endC lim looks rl)))
end VS
set_option Elab.async false
set_option linter.all false
set_option maxRecDepth 100000
/-! plain: what is kept on the way to the ends, for any weight. -/
namespace VS
open PySem PySem.Spec L2
def wtG (W : Int × Int → Int) (go : Int × Int → Bool) (D : List (Int × Int)) (p : Int × Int) : Int := if p ∈ D ∧ go p = true then 0 else W p
def totG (W : Int × Int → Int) (lim : Nat) (go : Int × Int → Bool) (D : List (Int × Int)) (m : Al Int) : Int := sumL (fun p => wtG W go D p * (lk m p).getD 0) ((0, 0) :: cnt lim)
/-! values at a share, all over one power -/
def hvN (p q : Int) (f : Nat → Int) : Nat → Int
  | 0 => f 0
  | n + 1 => hvN p q f n * q + f (n + 1) * p ^ (n + 1)
theorem hv_congr {p q : Int} {f g : Nat → Int} (h : ∀ i, f i = g i) (n : Nat) : hvN p q f n = hvN p q g n := by rw [show f = g from funext h]
theorem hv_add (p q : Int) (f g : Nat → Int) : ∀ n, hvN p q (fun i => f i + g i) n = hvN p q f n + hvN p q g n
  | 0 => rfl
  | n + 1 => by
    show hvN p q (fun i => f i + g i) n * q + (f (n + 1) + g (n + 1)) * p ^ (n + 1) = (hvN p q f n * q + f (n + 1) * p ^ (n + 1)) + (hvN p q g n * q + g (n + 1) * p ^ (n + 1))
    rw [hv_add p q f g n]
    generalize hvN p q f n = a
    generalize hvN p q g n = b
    generalize p ^ (n + 1) = c
    grind
theorem hv_sc (p q c : Int) (f : Nat → Int) : ∀ n, hvN p q (fun i => c * f i) n = c * hvN p q f n
  | 0 => rfl
  | n + 1 => by
    show hvN p q (fun i => c * f i) n * q + (c * f (n + 1)) * p ^ (n + 1) = c * (hvN p q f n * q + f (n + 1) * p ^ (n + 1))
    rw [hv_sc p q c f n]
    generalize hvN p q f n = a
    generalize p ^ (n + 1) = d
    grind
theorem hv_zero (p q : Int) : ∀ n, hvN p q (fun _ => 0) n = 0
  | 0 => rfl
  | n + 1 => by show hvN p q (fun _ => 0) n * q + 0 * p ^ (n + 1) = 0; rw [hv_zero p q n]; simp
theorem hv_tv (p q : Int) (f : Nat → Int) : ∀ n, tv p q ((List.range (n + 1)).map f) = hvN p q f n
  | 0 => by show 0 * p + f 0 * q ^ 0 = f 0; simp
  | n + 1 => by
    rw [List.range_succ, List.map_append]
    show tv p q ((List.range (n + 1)).map f ++ [f (n + 1)]) = _
    rw [tv_snoc, hv_tv p q f n, List.length_map, List.length_range]
    rfl
theorem tv_zeros (p q : Int) (l : List Int) : ∀ k, tv p q (l ++ List.replicate k 0) = tv p q l * q ^ k
  | 0 => by simp
  | k + 1 => by
    rw [List.replicate_succ', ← List.append_assoc, tv_snoc, tv_zeros p q l k, Int.pow_succ]
    simp [Int.mul_assoc]
theorem pad_cf {l : List Int} {n : Nat} (h : l.length ≤ n + 1) : l ++ List.replicate (n + 1 - l.length) 0 = (List.range (n + 1)).map (cf l) := by
  refine cf_ext ?_ fun i => ?_
  · simp; omega
  · rw [cf_map, cf_app, rep_zero]
    by_cases h1 : i < l.length
    · rw [if_pos h1, if_pos (by omega)]
    · rw [if_neg h1, cf_ge (show l.length ≤ i by omega)]; simp
theorem hv_len {p q : Int} {l : List Int} {n : Nat} (h : l.length ≤ n + 1) : hvN p q (cf l) n = tv p q l * q ^ (n + 1 - l.length) := by
  rw [← hv_tv, ← pad_cf h, tv_zeros]
theorem hv_path (p q : Int) {w l n : Nat} (h : w + l ≤ n) : hvN p q (cf (pathL w l)) n = p ^ w * (q - p) ^ l * q ^ (n - (w + l)) := by
  rw [hv_len (by rw [len_path]; omega), tv_path, len_path, show n + 1 - (w + l + 1) = n - (w + l) by omega]
/-! the same backwards -/
def bkC (looks : List Int) (rl : Al Str) (x : Str) (p q : Int) : Nat → Int × Int → Int
  | 0, c => if stopL looks rl c = true then (if (lk rl c).getD Str.empty = x then 1 else 0) else 0
  | n + 1, c => if stopL looks rl c = true then q ^ (n + 1) * (if (lk rl c).getD Str.empty = x then 1 else 0) else p * bkC looks rl x p q n (c.1 + 1, c.2) + (q - p) * bkC looks rl x p q n (c.1, c.2 + 1)
def bkL (looks : List Int) (rl : Al Str) (p q : Int) : Nat → Int × Int → Int
  | 0, c => 0
  | n + 1, c => if stopL looks rl c = true then 0 else p * bkL looks rl p q n (c.1 + 1, c.2) + (q - p) * bkL looks rl p q n (c.1, c.2 + 1) + q ^ (n + 1)
def sayN (S : List ((Int × Int) × Str)) (x : Str) (i : Nat) : List (Int × Int) := ((S.take i).filter fun e => decide (e.2 = x)).map (·.1)
def ph__law_back : Ph := fun ds q _ => ∃ lim looks rl x p r, ds = [ptD lim looks rl, .str x, .tup [.int p, .int r]] ∧ (Vt lim looks rl ∧ p.natAbs < 2 ^ 20 ∧ 1 ≤ r ∧ r < 2 ^ 20) ∧ q (.tup [.int (bkC looks rl x p r lim (0, 0)), .int (bkL looks rl p r lim (0, 0)), .int (r ^ lim)])
/-- the dicts of _law_back -/
def BkD (lim : Nat) (looks : List Int) (rl : Al Str) (x : Str) (p r : Int) (mc ml : Al Int) (t : Int) (j : Nat) : Prop := ∀ c : Int × Int, 0 ≤ c.1 → 0 ≤ c.2 → c.1 + c.2 ≤ lim → (t < c.1 + c.2 ∨ (c.1 + c.2 = t ∧ c.1 < j)) → lk mc c = some (bkC looks rl x p r (lim - (c.1 + c.2).toNat) c) ∧ lk ml c = some (bkL looks rl p r (lim - (c.1 + c.2).toNat) c)
theorem BkD.zero {lim : Nat} {looks : List Int} {rl : Al Str} {x : Str} {p r : Int} {mc ml : Al Int} : BkD lim looks rl x p r mc ml (lim - (0 : Nat)) 0 := fun c h0 h1 h2 h3 => by omega
theorem BkD.put {lim : Nat} {looks : List Int} {rl : Al Str} {x : Str} {p r : Int} {mc ml : Al Int} {t : Int} {j : Nat} (h : BkD lim looks rl x p r mc ml t j) {u v : Int} {a b : Int} (ha : a = j) (hb : b = t - j) (hu : u = bkC looks rl x p r (lim - t.toNat) (a, b)) (hv : v = bkL looks rl p r (lim - t.toNat) (a, b)) : BkD lim looks rl x p r (VS.put mc (a, b) u) (VS.put ml (a, b) v) t (j + 1) := fun c h0 h1 h2 h3 => by
  rw [lk_put, lk_put]
  by_cases e : (a, b) = c
  · rw [if_pos e, if_pos e, hu, hv, ← e]
    show _ = some (bkC looks rl x p r (lim - (a + b).toNat) (a, b)) ∧ _ = some (bkL looks rl p r (lim - (a + b).toNat) (a, b))
    rw [show a + b = t by omega]
    exact ⟨rfl, rfl⟩
  · rw [if_neg e, if_neg e]
    refine h c h0 h1 h2 ?_
    rcases h3 with h3 | ⟨h3, h4⟩
    · exact .inl h3
    · refine .inr ⟨h3, ?_⟩
      have : c.1 ≠ j := fun z => e (Prod.ext (by show a = c.1; omega) (by show b = c.2; omega))
      omega
theorem BkD.next {lim : Nat} {looks : List Int} {rl : Al Str} {x : Str} {p r : Int} {mc ml : Al Int} {t t' : Int} {j : Nat} (h : BkD lim looks rl x p r mc ml t j) (hj : (j : Int) = t + 1) (ht : t' = t - 1) : BkD lim looks rl x p r mc ml t' 0 := fun c h0 h1 h2 h3 => h c h0 h1 h2 (by omega)
end VS
set_option Elab.async false
set_option linter.all false
set_option maxRecDepth 100000
/-! plain: wrong words. -/
namespace VS
open PySem PySem.Spec L2
def rdS (x : Str) : Option (Str × Option (Int × Int)) := rdWord x.cps.toList
def wrongS (x : Str) (s : Int × Int) : Bool := match rdS x with
  | some w => wrongW w s
  | none => false
def ph__law_is_wrong : Ph := fun ds q _ => ∃ (x : Str) (s : Int × Int), ds = [.str x, ratD s] ∧ (Wd x ∧ SzR 400 s) ∧ q (.bl (wrongS x s))
/-! sums over words -/
def sumW (f : Str → Int) : List Str → Int
  | [] => 0
  | x :: l => f x + sumW f l
/-! wrong_at -/
def chP (T : Tb) (x : Str) : List Int := accP (wayF T) (sayL T x)
def wrongR (T : Tb) (s : Int × Int) : Int × Int := sumR (((wordsT T.stops).filter fun x => wrongS x s).map fun x => valR (chP T x) s)
def WdT (T : Tb) : Prop := ∀ e ∈ T.stops, Wd e.2
def ph_wrong_at (C : Addr) : Ph := fun ds q _ => ∃ (T : Tb) (s : Int × Int) (B : Nat), ds = [tabD C T, ratD s] ∧ (OkT T ∧ T.stops.length ≤ 500 ∧ WdT T ∧ SzR B s ∧ 1 ≤ s.2 ∧ B ≤ 100 ∧ (40 * B + 300) * (wordsT T.stops).length ≤ 7000) ∧ q (ratD (wrongR T s))
/-! points -/
def insP (ps : List (Int × Int)) (a : Int × Int) : List (Int × Int) := ps.filter (fun p => lessR p a) ++ [a] ++ ps.filter (fun p => lessR a p)
def insW (ps : List (Int × Int)) (x : Str) : List (Int × Int) := match rdS x with
  | some (_, some a) => insP ps a
  | _ => ps
def ptsL (ws : List Str) : List (Int × Int) := ws.foldl insW [(0, 1), (1, 1)]
def PtOk (p : Int × Int) : Prop := IsR p ∧ 0 ≤ p.1 ∧ p.1 ≤ p.2 ∧ p.2 ≤ 20
abbrev Pt3 : Type := Nat × List Int × Al Str
abbrev pt3D (p : Pt3) : Dt := ptD p.1 p.2.1 p.2.2
abbrev wdE (rl : Al Str) (c : Int × Int) : Str := (lk rl c).getD Str.empty
def wordsE (p : Pt3) : List Str := (endC p.1 p.2.1 p.2.2).map (wdE p.2.2)
theorem nd_len {α : Type} [DecidableEq α] : ∀ {l m : List α}, l.Nodup → (∀ x ∈ l, x ∈ m) → l.length ≤ m.length
  | [], m, _, _ => Nat.zero_le _
  | x :: l, m, nd, h => by
    obtain ⟨h1, h2⟩ := List.nodup_cons.mp nd
    have hx := h x List.mem_cons_self
    have := nd_len (m := m.erase x) h2 fun y hy => (List.mem_erase_of_ne (fun z : y = x => h1 (by rw [← z]; exact hy))).mpr (h y (List.mem_cons_of_mem _ hy))
    rw [List.length_erase_of_mem hx] at this
    have := List.length_pos_of_mem hx
    rw [List.length_cons]
    omega
def ph__law_points : Ph := fun ds q _ => ∃ Ls : List Pt3, ds = [.lst (Ls.map pt3D)] ∧ (Ls.length ≤ 10 ∧ ∀ p ∈ Ls, Vt p.1 p.2.1 p.2.2 ∧ Few p.2.2) ∧ q (.lst ((ptsL (Ls.flatMap wordsE)).map ratD))
/-- the row of the wrong words -/
def wrF (rl : Al Str) (s : Int × Int) (c : Int × Int) : Bool := wrongS (wdE rl c) s
def wrongP (lim : Nat) (looks : List Int) (rl : Al Str) (s : Int × Int) : List Int := accP (wayF (mkT lim looks rl)) ((endC lim looks rl).filter (wrF rl s))
def ph__law_wrong_row : Ph := fun ds q _ => ∃ lim looks rl s, ds = [ptD lim looks rl, ratD s] ∧ (Vt lim looks rl ∧ SzR 400 s) ∧ q (iL (wrongP lim looks rl s))
end VS
set_option Elab.async false
set_option linter.all false
set_option maxRecDepth 100000
/-! plain: several tables. -/
namespace VS
open PySem PySem.Spec L2
abbrev mulT (a b : List Int) : List Int := trimL (mulL a b)
def prodP (cs : List (List Int)) : List Int := cs.foldl mulT [1]
def cpl (c : List Int) : List Int := trimL (subL (trimL [1]) c)
def PolyOk (c : List Int) : Prop := SzL 110 c ∧ c.length ≤ 35
abbrev mk3 (p : Pt3) : Tb := mkT p.1 p.2.1 p.2.2
def TsOk (Ts : List Tb) : Prop := (∀ T ∈ Ts, OkT T ∧ T.stops.length ≤ 500) ∧ Ts.length ≤ 8
def ph_all_say (C CP : Addr) : Ph := fun ds q _ => ∃ (x : Str) (Ts : List Tb), ds = [.str x, .tup (Ts.map (tabD C))] ∧ TsOk Ts ∧ q (polD CP (prodP (Ts.map fun T => chP T x)))
def anyP (cs : List (List Int)) : List Int := cpl (prodP (cs.map cpl))
def ph_any_says (C CP : Addr) : Ph := fun ds q _ => ∃ (x : Str) (Ts : List Tb), ds = [.str x, .tup (Ts.map (tabD C))] ∧ TsOk Ts ∧ q (polD CP (anyP (Ts.map fun T => chP T x)))
/-! the law's side -/
def wsF (rl : Al Str) (x : Str) (c : Int × Int) : Bool := decide (wdE rl c = x)
def ph__law_chance : Ph := fun ds q _ => ∃ lim looks rl x, ds = [ptD lim looks rl, .str x] ∧ Vt lim looks rl ∧ q (iL (chP (mkT lim looks rl) x))
def LsOk (Ls : List Pt3) : Prop := (∀ p ∈ Ls, Vt p.1 p.2.1 p.2.2) ∧ Ls.length ≤ 8
def ph__law_all : Ph := fun ds q _ => ∃ (Ls : List Pt3) (x : Str), ds = [.lst (Ls.map pt3D), .str x] ∧ LsOk Ls ∧ q (iL (prodP (Ls.map fun p => chP (mk3 p) x)))
def ph__law_any : Ph := fun ds q _ => ∃ (Ls : List Pt3) (x : Str), ds = [.lst (Ls.map pt3D), .str x] ∧ LsOk Ls ∧ q (iL (anyP (Ls.map fun p => chP (mk3 p) x)))
/-! a text that is no word -/
def sevP (p o : Pt3) : List Pt3 := [p, o, p, o, p, p, o]
def ph__law_more (C : Addr) : Ph := fun ds q _ => ∃ (x : Str) (p o : Pt3), ds = [.str x, .tup [tabD C (mk3 p), tabD C (mk3 o), tabD C (mk3 p)], .lst ((sevP p o).map pt3D)] ∧ (Vt p.1 p.2.1 p.2.2 ∧ Vt o.1 o.2.1 o.2.2) ∧ q (.bl true)
end VS
set_option Elab.async false
set_option linter.all false
set_option maxRecDepth 100000
/-! plain: tables that differ a little. -/
namespace VS
open PySem PySem.Spec L2
theorem put_keys {α : Type} {m : Al α} {p : Int × Int} {a : α} (h : has m p = true) : (put m p a).map (·.1) = m.map (·.1) := by
  unfold put
  rw [if_pos h, List.map_map]
  refine List.map_congr_left fun e _ => ?_
  show (if e.1 = p then (e.1, a) else e).1 = e.1
  split <;> rfl
theorem put_mem {α : Type} {m : Al α} {p : Int × Int} {a : α} {e : (Int × Int) × α} (he : e ∈ put m p a) : e ∈ m ∨ e.2 = a := by
  unfold put at he
  split at he
  · obtain ⟨e', h', rfl⟩ := List.mem_map.mp he
    by_cases c : e'.1 = p
    · right; rw [if_pos c]
    · left; rw [if_neg c]; exact h'
  · rcases List.mem_append.mp he with h | h
    · exact .inl h
    · right; rw [List.mem_singleton.mp h]
/-- another word at a count of the rule -/
theorem Vt.put {lim : Nat} {looks : List Int} {rl : Al Str} (h : Vt lim looks rl) {c : Int × Int} {x : Str} (hc : has rl c = true) (hx : Wd x) : Vt lim looks (VS.put rl c x) := by
  obtain ⟨⟨a1, a2, a3, a4, a5, a6, a7, a8, a9⟩, ks, b1, b2⟩ := h
  refine ⟨⟨a1, a2, a3, a4, a5, a6, ?_, ?_, fun j hj => has_put (.inl (a9 j hj))⟩, ks, b1, by rw [put_keys hc]; exact b2⟩
  · intro e he
    have : e.1 ∈ (VS.put rl c x).map (·.1) := List.mem_map_of_mem he
    rw [put_keys hc] at this
    obtain ⟨e', he', eq⟩ := List.mem_map.mp this
    rw [← eq]
    exact a7 e' he'
  · intro e he
    rcases put_mem he with z | z
    · exact a8 e z
    · rw [z]; exact hx
theorem Few.put {n : Nat} {rl : Al Str} {mn : List Str} (hl : mn.length + 1 ≤ 8) (h1 : ∀ e ∈ rl, e.2 ∈ mn) (h2 : ∀ x ∈ mn, SmW x) {c : Int × Int} {x : Str} (hx : SmW x) : Few (VS.put rl c x) := by
  refine ⟨mn ++ [x], by rw [List.length_append]; exact hl, fun e he => ?_, fun y hy => ?_⟩
  · rcases put_mem he with z | z
    · exact List.mem_append_left _ (h1 e z)
    · rw [z]; exact List.mem_append_right _ (List.mem_singleton.mpr rfl)
  · rcases List.mem_append.mp hy with z | z
    · exact h2 y z
    · rw [List.mem_singleton.mp z]; exact hx
/-- all looks -/
def oneTo (n : Nat) : List Int := (List.range n).map fun i : Nat => (1 : Int) + (i : Nat)
theorem Vt.rlen {lim : Nat} {looks : List Int} {rl : Al Str} (hv : Vt lim looks rl) : rl.length ≤ 500 := by
  obtain ⟨ks, hks, ek⟩ := hv.ord
  have h1 := congrArg List.length ek
  rw [List.length_map, List.length_map] at h1
  have h2 := hks.length_le
  have h3 := cnt_len hv.l30
  rw [cnt_cast, List.length_map] at h3
  omega
end VS
set_option Elab.async false
set_option linter.all false
set_option maxRecDepth 100000
/-! list(range(..)). -/
namespace VS
open PySem PySem.Spec L2
section
variable {X : Cx} {R : Reg} {G : List Sl} {pos : Pos}
end
end VS
set_option Elab.async false
set_option linter.all false
set_option maxRecDepth 100000
/-! plain: wishers. -/
namespace VS
open PySem PySem.Spec L2
def addA (a : Al Int) (c : Int × Int) (v : Int) : Al Int := put a c ((lk a c).getD 0 + v)
def sumE (f : Int × Int → Int) : Al Int → Int
  | [] => 0
  | e :: a => e.2 * f e.1 + sumE f a
def Nk (a : Al Int) : Prop := (a.map (·.1)).Nodup
/-- one more try -/
def aftS (a : Al Int) (e : (Int × Int) × Int) : Al Int := addA (addA a e.1 e.2) (e.1.1 + 1, e.1.2) e.2
def aftT (h : Al Int) : Al Int := h.foldl aftS []
/-- counts, values and places of the ways -/
def Wy (t : Nat) (a : Al Int) : Prop := Nk a ∧ (∀ e ∈ a, 0 ≤ e.1.1 ∧ e.1.1 ≤ t ∧ 0 ≤ e.1.2 ∧ e.1.2 ≤ t ∧ 0 ≤ e.2) ∧ sumE (fun _ => 1) a ≤ 2 ^ t
/-! values tell a polynomial -/
theorem hv_accS (p q : Int) (f : Int × Int → Int) (a : List Int) {c : Int × Int} {n : Nat} (h0 : 0 ≤ c.1) (h1 : 0 ≤ c.2) (h2 : c.1 + c.2 ≤ n) : hvN p q (cf (accS f a c)) n = hvN p q (cf a) n + f c * (p ^ c.1.toNat * (q - p) ^ c.2.toNat * q ^ (n - (c.1 + c.2).toNat)) := by
  have hcf : ∀ i, cf (accS f a c) i = cf a i + f c * cf (pathL c.1.toNat c.2.toNat) i := fun i => by unfold accS; rw [cf_trim, cf_add, cf_trim, cf_sc]
  rw [hv_congr hcf, hv_add, hv_sc, hv_path p q (by omega), show c.1.toNat + c.2.toNat = (c.1 + c.2).toNat by omega]
/-! the greatest chance -/
def wCond (T : Tb) (x : Str) (ea : Bool) (c : Int × Int) : Bool := decide (lk T.ent c = some x) && (T.isEnd c || ea)
abbrev atW (t : Nat) (e : (Int × Int) × Int) : Int × Int := (e.1.1, (t : Int) - e.1.1)
def wS (T : Tb) (x : Str) (sk : Int) (ea : Bool) (t : Nat) (st : List Int × Al Int) (e : (Int × Int) × Int) : List Int × Al Int :=
  if wCond T x ea (atW t e) = true then (accS (fun _ => e.2) st.1 (atW t e), st.2)
  else if T.isEnd (atW t e) = false then (st.1, put st.2 e.1 e.2)
  else if (t : Int) < T.lim ∧ e.1.2 < sk then (st.1, put st.2 (e.1.1, e.1.2 + 1) e.2)
  else st
def wT (T : Tb) (x : Str) (sk : Int) (ea : Bool) (t : Nat) (st : List Int × Al Int) : List Int × Al Int := (aftT st.2).foldl (wS T x sk ea t) (st.1, [])
def wN (T : Tb) (x : Str) (sk : Int) (ea : Bool) : Nat → List Int × Al Int
  | 0 => ([], [((0, 0), 1)])
  | i + 1 => wT T x sk ea (i + 1) (wN T x sk ea i)
/-- the greatest chance, as a polynomial -/
def wishP (T : Tb) (x : Str) (sk : Int) (ea : Bool) : List Int := (wN T x sk ea T.lim).1
section
variable (T : Tb) (x : Str) (sk : Int) (ea : Bool) (p q : Int)
/-- what may be reached still, with n tries left: G when the next try is made, W at a count -/
def wiG : Nat → Int × Int → Int → Int
  | 0, _, _ => 0
  | n + 1, c, m =>
    let W := fun (c : Int × Int) => if wCond T x ea c = true then q ^ n else if T.isEnd c = false then wiG n c m else if m < sk then wiG n c (m + 1) else 0
    p * W (c.1 + 1, c.2) + (q - p) * W (c.1, c.2 + 1)
def wiW (n : Nat) (c : Int × Int) (m : Int) : Int := if wCond T x ea c = true then q ^ n else if T.isEnd c = false then wiG T x sk ea p q n c m else if m < sk then wiG T x sk ea p q n c (m + 1) else 0
theorem wiG_succ (n : Nat) (c : Int × Int) (m : Int) : wiG T x sk ea p q (n + 1) c m = p * wiW T x sk ea p q n (c.1 + 1, c.2) m + (q - p) * wiW T x sk ea p q n (c.1, c.2 + 1) m := rfl
/-- the weight of a place at t tries -/
def wgG (n t : Nat) (k : Int × Int) : Int := p ^ k.1.toNat * (q - p) ^ ((t : Int) - k.1).toNat * wiG T x sk ea p q n (k.1, (t : Int) - k.1) k.2
def wgW (n t : Nat) (k : Int × Int) : Int := p ^ k.1.toNat * (q - p) ^ ((t : Int) - k.1).toNat * wiW T x sk ea p q n (k.1, (t : Int) - k.1) k.2
end
section
variable {T : Tb} {x : Str} {sk : Int} {ea : Bool} {p q : Int}
def keyW (T : Tb) (t : Nat) (e : (Int × Int) × Int) : Int × Int := if T.isEnd (atW t e) = false then e.1 else (e.1.1, e.1.2 + 1)
end
/-- the ways that wait and what is gathered after t tries -/
def Wj (N t : Nat) (b : Int) (st : List Int × Al Int) : Prop := Nk st.2 ∧ (∀ e ∈ st.2, 0 ≤ e.1.1 ∧ e.1.1 ≤ t ∧ 0 ≤ e.1.2 ∧ e.1.2 ≤ t ∧ 0 ≤ e.2) ∧ st.1.length ≤ N + 1 ∧ Tr st.1 ∧ ∃ S : Int, 0 ≤ S ∧ (∀ j, ((cf st.1 j).natAbs : Int) ≤ S * 2 ^ 31) ∧ S + sumE (fun _ => 1) st.2 ≤ b
def grid (n : Nat) : List (Int × Int) := (List.range n).flatMap fun i => (List.range n).map fun j => (((i : Nat) : Int), ((j : Nat) : Int))
theorem Wj.len {N t : Nat} {b : Int} {st : List Int × Al Int} (h : Wj N t b st) (ht : t ≤ 30) : st.2.length ≤ 961 := by
  have h1 := nd_len (l := st.2.map (fun z : (Int × Int) × Int => z.1)) (m := grid 31) h.1 fun c hc => by
    obtain ⟨e, he, rfl⟩ := List.mem_map.mp hc
    have := h.2.1 e he
    unfold grid
    refine List.mem_flatMap.mpr ⟨e.1.1.toNat, List.mem_range.mpr (by omega), List.mem_map.mpr ⟨e.1.2.toNat, List.mem_range.mpr (by omega), ?_⟩⟩
    exact Prod.ext (by show ((e.1.1.toNat : Nat) : Int) = _; omega) (by show ((e.1.2.toNat : Nat) : Int) = _; omega)
  have h2 : (grid 31).length = 961 := by decide +kernel
  rw [List.length_map] at h1
  omega
end VS
namespace VS
open PySem PySem.Spec L2
end VS
set_option Elab.async false
set_option linter.all false
set_option maxRecDepth 100000
set_option maxHeartbeats 2000000
/-! the best of a wisher, backwards -/
namespace VS
open PySem PySem.Spec L2
def k3 (c : Int × Int) (m : Int) : List Key := [.inl c.1, .inl c.2, .inl m]
theorem k3_inj {c d : Int × Int} {m n : Int} : k3 c m = k3 d n ↔ c = d ∧ m = n := by
  unfold k3
  constructor
  · intro h
    injection h with h1 h2
    injection h2 with h2 h3
    injection h3 with h3 h4
    injection h1 with h1
    injection h2 with h2
    injection h3 with h3
    exact ⟨Prod.ext h1 h2, h3⟩
  · rintro ⟨rfl, rfl⟩; rfl
theorem look_rep {q q' : List Key} {d : Dt} : ∀ {ks : List (List Key)} {xs : List Dt}, ks.length = xs.length → lookT ks (repV q d ks xs) q' = if q = q' ∧ hasT ks q = true then some d else lookT ks xs q'
  | [], [], _ => by rw [if_neg (fun h => nomatch h.2)]; rfl
  | k :: ks, x :: xs, hl => by
    have ih := look_rep (q := q) (q' := q') (d := d) (ks := ks) (xs := xs) (Nat.succ.inj hl)
    show (if k = q' then some (if k = q then d else x) else lookT ks (repV q d ks xs) q') = _
    have hh : hasT (k :: ks) q = (decide (k = q) || hasT ks q) := rfl
    by_cases h1 : k = q'
    · rw [if_pos h1]
      by_cases h2 : k = q
      · rw [if_pos h2, if_pos ⟨h2.symm.trans h1, by rw [hh, decide_eq_true h2]; rfl⟩]
      · rw [if_neg h2, if_neg fun z => h2 (h1.trans z.1.symm)]
        show _ = if k = q' then some x else _
        rw [if_pos h1]
    · rw [if_neg h1, ih]
      show _ = if _ then _ else (if k = q' then some x else lookT ks xs q')
      rw [if_neg h1]
      by_cases h3 : q = q'
      · have : decide (k = q) = false := decide_eq_false fun z => h1 (z.trans h3)
        rw [hh, this, Bool.false_or]
      · rw [if_neg fun z => h3 z.1, if_neg fun z => h3 z.1]
theorem look_app {q q' : List Key} {d : Dt} : ∀ {ks : List (List Key)} {xs : List Dt}, ks.length = xs.length → hasT ks q = false → lookT (ks ++ [q]) (xs ++ [d]) q' = if q = q' then some d else lookT ks xs q'
  | [], [], _, _ => rfl
  | k :: ks, x :: xs, hl, hh => by
    have hh2 : (decide (k = q) || hasT ks q) = false := hh
    rw [Bool.or_eq_false_iff] at hh2
    have ih := look_app (q := q) (q' := q') (d := d) (ks := ks) (xs := xs) (Nat.succ.inj hl) hh2.2
    show (if k = q' then some x else lookT (ks ++ [q]) (xs ++ [d]) q') = if q = q' then some d else (if k = q' then some x else lookT ks xs q')
    by_cases h1 : k = q'
    · rw [if_pos h1, if_neg fun z => (of_decide_eq_false hh2.1) (h1.trans z.symm)]
      rw [if_pos h1]
    · rw [if_neg h1, ih, if_neg h1]
theorem look_put {q q' : List Key} {d : Dt} {ks : List (List Key)} {xs : List Dt} (hl : ks.length = xs.length) : lookT (putT ks q) (putX ks xs q d) q' = if q = q' then some d else lookT ks xs q' := by
  unfold putT putX
  cases h : hasT ks q with
  | true =>
    rw [if_pos rfl, if_pos rfl, look_rep hl, h]
    simp
  | false =>
    rw [if_neg (by decide), if_neg (by decide), look_app hl h]
theorem putX_len {q : List Key} {d : Dt} {ks : List (List Key)} {xs : List Dt} (hl : ks.length = xs.length) : (putT ks q).length = (putX ks xs q d).length := by
  unfold putT putX
  cases h : hasT ks q with
  | true => rw [if_pos rfl, if_pos rfl, rep_len, hl]
  | false => rw [if_neg (by decide), if_neg (by decide), List.length_append, List.length_append, hl]; rfl
section
variable {T : Tb} {x : Str} {sk : Int} {ea : Bool} {p q : Int}
theorem wi_nn (h0 : 0 ≤ p) (h1 : p ≤ q) : ∀ (n : Nat), (∀ (c : Int × Int) (m : Int), 0 ≤ wiG T x sk ea p q n c m ∧ wiG T x sk ea p q n c m ≤ q ^ n) ∧ ∀ (c : Int × Int) (m : Int), 0 ≤ wiW T x sk ea p q n c m ∧ wiW T x sk ea p q n c m ≤ q ^ n := by
  intro n
  have hW : ∀ n : Nat, (∀ (c : Int × Int) (m : Int), 0 ≤ wiG T x sk ea p q n c m ∧ wiG T x sk ea p q n c m ≤ q ^ n) → ∀ (c : Int × Int) (m : Int), 0 ≤ wiW T x sk ea p q n c m ∧ wiW T x sk ea p q n c m ≤ q ^ n := fun n h c m => by
    have hq := @Int.pow_nonneg q n (by omega)
    unfold wiW
    split
    · exact ⟨hq, Int.le_refl _⟩
    · split
      · exact h c m
      · split
        · exact h c (m + 1)
        · exact ⟨Int.le_refl _, hq⟩
  have hG : ∀ (c : Int × Int) (m : Int), 0 ≤ wiG T x sk ea p q n c m ∧ wiG T x sk ea p q n c m ≤ q ^ n := by
    induction n with
    | zero => exact fun c m => ⟨Int.le_refl _, by rw [Int.pow_zero]; show (0 : Int) ≤ 1; decide⟩
    | succ n ih =>
      intro c m
      rw [wiG_succ]
      obtain ⟨a1, a2⟩ := hW n ih (c.1 + 1, c.2) m
      obtain ⟨b1, b2⟩ := hW n ih (c.1, c.2 + 1) m
      have c1 := Int.mul_le_mul_of_nonneg_left a2 h0
      have c2 := Int.mul_le_mul_of_nonneg_left b2 (show 0 ≤ q - p by omega)
      have c3 := Int.mul_nonneg h0 a1
      have c4 := Int.mul_nonneg (show 0 ≤ q - p by omega) b1
      rw [Int.pow_succ]
      generalize q ^ n = w at *
      refine ⟨by omega, ?_⟩
      rw [show w * q = p * w + (q - p) * w by grind]
      omega
  exact ⟨hG, hW n hG⟩
end
def mxS (b c : Int) : Int := if c > b then c else b
/-- the choices at a count -/
def chA (rl : Al Str) (x : Str) (ea : Bool) (e : Bool) (c : Int × Int) (s : Int) : List Int := if (e || (ea && has rl c)) = true then [s * (if decide ((lk rl c).getD Str.empty = x) = true then 1 else 0)] else []
def chs (looks : List Int) (rl : Al Str) (x : Str) (ea : Bool) (c : Int × Int) (s g g1 : Int) (fr : Bool) : List Int := (chA rl x ea (stopL looks rl c) c s ++ (if stopL looks rl c = false then [g] else [])) ++ if (stopL looks rl c && fr) = true then [g1] else []
section
variable {X : Cx} {R : Reg} {G : List Sl} {pos : Pos} {k : Kt}
end
section
variable {X : Cx} {R : Reg} {G : List Sl} {k : Kt}
/-- from here on the thing in slot i is shared -/
theorem s_frz1 (i : Nat) {d0 : Dt} {ss : List Stmt} (hg : G[i]? = some (.ow d0)) (h : S X R ss (G.set i (.sh d0)) k) : S X R ss G k := fun F0 H0 σ F H D ty b c => by
  obtain ⟨o, hs, fo, nM, ow⟩ := ty.own hg
  obtain ⟨u, hu, hk⟩ := ow.kd
  have hb : H0 o = none := b.fresh o (mem_owns hg hs)
  have ty1 := ty.lend hg hs fo nM ow hu
  refine h F0 H0 σ (upd F o u) H D ty1 ⟨⟨ty1.wf, b.ext.ff.trans (same_upd1 fo), b.ext.hh, fun a h1 n => ?_⟩, fun a ha => ?_, b.z⟩ c
  · by_cases e : a = o
    · subst e; exact absurd hb h1.ne
    · rw [upd_ne e]; exact b.ext.fr a h1 n
  · obtain ⟨j, d, e1, e2⟩ := owns_mem ha
    by_cases z : i = j
    · subst z
      rw [List.getElem?_set_self (List.getElem?_eq_some_iff.mp hg).1] at e1
      cases e1
    · rw [List.getElem?_set_ne z] at e1
      exact b.fresh a (mem_owns e1 e2)
end
/-- what the law's dict holds: all counts after t tries, and those at t with fewer wins, and at i wins the first j misses -/
def BsD (V : Int × Int → Int → Int) (lim : Nat) (mo : Int) (ks : List (List Key)) (xs : List Dt) (t : Int) (i j : Nat) : Prop := ks.length = xs.length ∧ ∀ (c : Int × Int) (m : Int), 0 ≤ c.1 → 0 ≤ c.2 → 0 ≤ m → m ≤ mo → c.1 + c.2 ≤ lim → (t < c.1 + c.2 ∨ (c.1 + c.2 = t ∧ (c.1 < i ∨ (c.1 = i ∧ m < j)))) → lookT ks xs (k3 c m) = some (.int (V c m))
theorem BsD.zero {V : Int × Int → Int → Int} {lim : Nat} {mo : Int} : BsD V lim mo [] [] (lim - (0 : Nat)) 0 0 := ⟨rfl, fun c m h0 h1 h2 h3 h4 h5 => by omega⟩
theorem BsD.put {V : Int × Int → Int → Int} {lim : Nat} {mo : Int} {ks : List (List Key)} {xs : List Dt} {t : Int} {i j : Nat} (h : BsD V lim mo ks xs t i j) {a b m v : Int} (ha : a = i) (hb : b = t - i) (hm : m = j) (hv : v = V (a, b) m) : BsD V lim mo (putT ks (k3 (a, b) m)) (putX ks xs (k3 (a, b) m) (.int v)) t i (j + 1) := by
  refine ⟨putX_len h.1, fun c m' h0 h1 h2 h3 h4 h5 => ?_⟩
  rw [look_put h.1]
  by_cases e : k3 (a, b) m = k3 c m'
  · rw [if_pos e]
    obtain ⟨e1, e2⟩ := k3_inj.mp e
    rw [hv, e1, e2]
  · rw [if_neg e]
    refine h.2 c m' h0 h1 h2 h3 h4 ?_
    rcases h5 with h5 | ⟨h5, h6 | ⟨h6, h7⟩⟩
    · exact .inl h5
    · exact .inr ⟨h5, .inl h6⟩
    · refine .inr ⟨h5, .inr ⟨h6, ?_⟩⟩
      have : m' ≠ j := fun z => e (k3_inj.mpr ⟨Prod.ext (by show a = c.1; omega) (by show b = c.2; omega), by omega⟩)
      omega
theorem BsD.next {V : Int × Int → Int → Int} {lim : Nat} {mo : Int} {ks : List (List Key)} {xs : List Dt} {t : Int} {i : Nat} (h : BsD V lim mo ks xs t i 0) (hi : t < i) : BsD V lim mo ks xs (t - 1) 0 0 := by
  refine ⟨h.1, fun c m h0 h1 h2 h3 h4 h5 => h.2 c m h0 h1 h2 h3 h4 ?_⟩
  rcases h5 with h5 | ⟨h5, h6 | ⟨h6, h7⟩⟩
  · by_cases z : t < c.1 + c.2
    · exact .inl z
    · exact .inr ⟨by omega, .inl (by omega)⟩
  · omega
  · omega
end VS
set_option Elab.async false
set_option linter.all false
set_option maxRecDepth 100000
set_option maxHeartbeats 2000000
/-! sums over the counts of a level; a behaviour is no better than the best wisher -/
namespace VS
open PySem PySem.Spec L2
def sumF : Nat → (Nat → Int) → Int
  | 0, _ => 0
  | k + 1, h => h 0 + sumF k fun d => h (d + 1)
theorem sumF_congr : ∀ {k : Nat} {h h' : Nat → Int}, (∀ d, d < k → h d = h' d) → sumF k h = sumF k h'
  | 0, _, _, _ => rfl
  | k + 1, h, h', e => by
    show h 0 + _ = h' 0 + _
    rw [e 0 (by omega), sumF_congr (h := fun d => h (d + 1)) (h' := fun d => h' (d + 1)) fun d hd => e (d + 1) (by omega)]
theorem sumF_one : ∀ {k : Nat} {h h' : Nat → Int} {i : Nat} {v : Int}, i < k → h' i = h i + v → (∀ d, d < k → d ≠ i → h' d = h d) → sumF k h' = sumF k h + v
  | 0, _, _, _, _, hi, _, _ => absurd hi (Nat.not_lt_zero _)
  | k + 1, h, h', 0, v, _, e, ne => by
    show h' 0 + sumF k _ = h 0 + sumF k _ + v
    rw [e, sumF_congr (h := fun d => h' (d + 1)) (h' := fun d => h (d + 1)) fun d hd => ne (d + 1) (by omega) (by omega)]
    omega
  | k + 1, h, h', i + 1, v, hi, e, ne => by
    show h' 0 + sumF k _ = h 0 + sumF k _ + v
    rw [ne 0 (by omega) (by omega), sumF_one (h := fun d => h (d + 1)) (h' := fun d => h' (d + 1)) (i := i) (v := v) (by omega) e fun d hd hn => ne (d + 1) (by omega) (by omega)]
    omega
/-- what lies at the counts after w wins and j misses at t tries -/
abbrev Cel := Int × Int → Int → Int
def cellV (f g : Cel) (t w m : Nat) : Int := f ((w : Int), (t : Int) - w) m * g ((w : Int), (t : Int) - w) m
def rowS (f g : Cel) (mo t w j : Nat) : Int := sumF (mo + 1 - j) fun d => cellV f g t w (j + d)
def levS (f g : Cel) (mo t i : Nat) : Int := sumF (t + 1 - i) fun d => rowS f g mo t (i + d) 0
theorem row_step {f g : Cel} {mo t w j : Nat} (h : j ≤ mo) : rowS f g mo t w j = cellV f g t w j + rowS f g mo t w (j + 1) := by
  unfold rowS
  rw [show mo + 1 - j = (mo + 1 - (j + 1)) + 1 by omega]
  show cellV f g t w (j + 0) + sumF (mo + 1 - (j + 1)) _ = _
  rw [Nat.add_zero]
  congr 1
  exact sumF_congr fun d _ => by show cellV f g t w (j + (d + 1)) = _; rw [show j + (d + 1) = j + 1 + d by omega]
theorem lev_step {f g : Cel} {mo t i : Nat} (h : i ≤ t) : levS f g mo t i = rowS f g mo t i 0 + levS f g mo t (i + 1) := by
  unfold levS
  rw [show t + 1 - i = (t + 1 - (i + 1)) + 1 by omega]
  show rowS f g mo t (i + 0) 0 + sumF (t + 1 - (i + 1)) _ = _
  rw [Nat.add_zero]
  congr 1
  exact sumF_congr fun d _ => by show rowS f g mo t (i + (d + 1)) 0 = _; rw [show i + (d + 1) = i + 1 + d by omega]
/-- f with v more at one place -/
def addF (f : Cel) (c : Int × Int) (m v : Int) : Cel := fun d k => if d = c ∧ k = m then f d k + v else f d k
theorem row_same {f f' g : Cel} {mo t w j : Nat} (h : ∀ m, f' ((w : Int), (t : Int) - w) m = f ((w : Int), (t : Int) - w) m) : rowS f' g mo t w j = rowS f g mo t w j := sumF_congr fun d _ => by unfold cellV; rw [h]
theorem lev_same {f f' g : Cel} {mo t i : Nat} (h : ∀ (c : Int × Int) (m : Int), c.1 + c.2 = t → f' c m = f c m) : levS f' g mo t i = levS f g mo t i := sumF_congr fun d _ => row_same fun m => h _ m (by dsimp only; omega)
theorem addF_ne {f : Cel} {c : Int × Int} {m v : Int} {d : Int × Int} {k : Int} (h : ¬ (d = c ∧ k = m)) : addF f c m v d k = f d k := if_neg h
theorem addF_eq {f : Cel} {c : Int × Int} {m v : Int} : addF f c m v c m = f c m + v := if_pos ⟨rfl, rfl⟩
theorem lev_add {f g : Cel} {mo t w m : Nat} {v : Int} (hw : w ≤ t) (hm : m ≤ mo) : levS (addF f ((w : Int), (t : Int) - w) m v) g mo t 0 = levS f g mo t 0 + v * g ((w : Int), (t : Int) - w) m := by
  unfold levS
  refine sumF_one (i := w) (by omega) ?_ fun d hd hn => ?_
  · rw [Nat.zero_add]
    unfold rowS
    refine sumF_one (i := m) (by omega) ?_ fun d hd hn => ?_
    · rw [Nat.zero_add]
      unfold cellV
      rw [addF_eq, Int.add_mul]
    · unfold cellV
      rw [addF_ne fun z => hn (by have := z.2; omega)]
  · exact row_same fun k => addF_ne fun z => hn (by have := congrArg Prod.fst z.1; dsimp only at this; omega)
/-- what a behaviour may still reach: the row so far, the counts not yet looked at after t tries, and all of the next -/
def potB (f g0 g1 : Cel) (mo t w j : Nat) : Int := (rowS f g0 mo t w j + levS f g0 mo t (w + 1)) + levS f g1 mo (t + 1) 0
/-- a count looked at -/
theorem pot_cell {f g0 g1 : Cel} {mo t w j : Nat} (hj : j ≤ mo) : potB f g0 g1 mo t w j = cellV f g0 t w j + potB f g0 g1 mo t w (j + 1) := by
  unfold potB
  rw [row_step hj]
  omega
/-- a way handed on -/
theorem pot_add {f g0 g1 : Cel} {mo t w j w' m : Nat} {v : Int} (hw : w' ≤ t + 1) (hm : m ≤ mo) : potB (addF f ((w' : Int), ((t + 1 : Nat) : Int) - w') m v) g0 g1 mo t w j = potB f g0 g1 mo t w j + v * g1 ((w' : Int), ((t + 1 : Nat) : Int) - w') m := by
  unfold potB
  rw [lev_add hw hm]
  have h1 : ∀ (c : Int × Int) (k : Int), c.1 + c.2 = t → addF f ((w' : Int), ((t + 1 : Nat) : Int) - w') m v c k = f c k := fun c k hc => addF_ne fun z => by
    rw [z.1] at hc
    dsimp only at hc
    omega
  rw [row_same (f := f) fun k => h1 _ k (by dsimp only; omega), lev_same (f := f) (i := w + 1) fun c k hc => h1 c k hc]
  omega
section
variable (lim : Nat) (looks : List Int) (rl : Al Str) (x : Str) (mo : Nat) (qu : Bool) (p q : Int)
def wtC (c : Int × Int) : Int := p ^ c.1.toNat * (q - p) ^ c.2.toNat
/-- the weight of a count after t tries -/
def gB (t : Nat) : Cel := fun c m => wtC p q c * wiG (mkT lim looks rl) x mo qu p q (lim - t) c m
def vB (t : Nat) : Cel := fun c m => wtC p q c * wiW (mkT lim looks rl) x mo qu p q (lim - t) c m
/-- whether one may turn -/
def freeB (t : Nat) (c : Int × Int) (m : Nat) : Bool := (stopL looks rl c && (decide (t + 1 < lim) && decide (m < mo))) || (!stopL looks rl c && (qu && has rl c))
/-- one try handed on: `tn` whether one turned -/
def halfB (tn : Bool) (m : Nat) (many : Int) (c : Int × Int) (s : List Int × Cel) : List Int × Cel :=
  (if ((stopL looks rl c != tn) && decide (lk rl c = some x)) = true then accS (fun _ => many) s.1 c else s.1,
   if (stopL looks rl c != tn) = false then addF s.2 c (m + if stopL looks rl c = true then 1 else 0) many else s.2)
end
theorem cell_split {lim : Nat} {looks : List Int} {rl : Al Str} {x : Str} {mo : Nat} {qu : Bool} {p q : Int} {t : Nat} (ht : t < lim) {a b : Nat} {m : Int} : gB lim looks rl x mo qu p q t ((a : Int), (b : Int)) m = vB lim looks rl x mo qu p q (t + 1) ((a : Int) + 1, (b : Int)) m + vB lim looks rl x mo qu p q (t + 1) ((a : Int), (b : Int) + 1) m := by
  unfold gB vB wtC
  rw [show lim - t = (lim - (t + 1)) + 1 by omega, wiG_succ]
  show p ^ (a : Int).toNat * (q - p) ^ (b : Int).toNat * (p * wiW _ x mo qu p q (lim - (t + 1)) ((a : Int) + 1, (b : Int)) m + (q - p) * wiW _ x mo qu p q (lim - (t + 1)) ((a : Int), (b : Int) + 1) m) = p ^ ((a : Int) + 1).toNat * (q - p) ^ (b : Int).toNat * wiW _ x mo qu p q (lim - (t + 1)) ((a : Int) + 1, (b : Int)) m + p ^ (a : Int).toNat * (q - p) ^ ((b : Int) + 1).toNat * wiW _ x mo qu p q (lim - (t + 1)) ((a : Int), (b : Int) + 1) m
  rw [show ((a : Int) + 1).toNat = (a : Int).toNat + 1 by omega, show ((b : Int) + 1).toNat = (b : Int).toNat + 1 by omega, Int.pow_succ, Int.pow_succ]
  generalize p ^ (a : Int).toNat = u
  generalize (q - p) ^ (b : Int).toNat = v
  generalize wiW _ x mo qu p q (lim - (t + 1)) ((a : Int) + 1, (b : Int)) m = y
  generalize wiW _ x mo qu p q (lim - (t + 1)) ((a : Int), (b : Int) + 1) m = z
  grind
theorem half_ok {lim : Nat} {looks : List Int} {rl : Al Str} (hv : Vr lim looks rl) {x : Str} {mo : Nat} {qu : Bool} {p q : Int} (h0 : 0 ≤ p) (h1 : p ≤ q) {t : Nat} (ht : t < lim) {w' : Nat} (hw : w' ≤ t + 1) {m : Nat} (hm : m ≤ mo) {many : Int} (hn : 0 ≤ many) {tn : Bool} (htn : tn = true → freeB lim looks rl mo qu t ((w' : Int), ((t + 1 : Nat) : Int) - w') m = true) {w j : Nat} {g0 : Cel} {s : List Int × Cel} :
    hvN p q (cf (halfB looks rl x tn m many ((w' : Int), ((t + 1 : Nat) : Int) - w') s).1) lim + potB (halfB looks rl x tn m many ((w' : Int), ((t + 1 : Nat) : Int) - w') s).2 g0 (gB lim looks rl x mo qu p q (t + 1)) mo t w j ≤ hvN p q (cf s.1) lim + potB s.2 g0 (gB lim looks rl x mo qu p q (t + 1)) mo t w j + many * vB lim looks rl x mo qu p q (t + 1) ((w' : Int), ((t + 1 : Nat) : Int) - w') m := by
  have hc : ∃ c : Int × Int, c = ((w' : Int), ((t + 1 : Nat) : Int) - w') := ⟨_, rfl⟩
  have ent : ∀ c, lk (mkT lim looks rl).ent c = lk rl c := fun c => lk_ent hv.keys c
  have ge : ∀ c, (mkT lim looks rl).isEnd c = stopL looks rl c := fun c => isEnd_mk hv c
  have hwt : 0 ≤ wtC p q ((w' : Int), ((t + 1 : Nat) : Int) - w') := Int.mul_nonneg (Int.pow_nonneg h0) (Int.pow_nonneg (by omega))
  have hnn := wi_nn (T := mkT lim looks rl) (x := x) (sk := mo) (ea := qu) h0 h1 (lim - (t + 1))
  obtain ⟨w0, w1⟩ := hnn.2 ((w' : Int), ((t + 1 : Nat) : Int) - w') m
  obtain ⟨a0, a1⟩ := hnn.1 ((w' : Int), ((t + 1 : Nat) : Int) - w') m
  obtain ⟨b0, b1⟩ := hnn.1 ((w' : Int), ((t + 1 : Nat) : Int) - w') ((m : Int) + 1)
  have hacc := hv_accS p q (fun _ => many) s.1 (c := ((w' : Int), ((t + 1 : Nat) : Int) - w')) (n := lim) (by dsimp only; omega) (by dsimp only; omega) (by dsimp only; omega)
  have hlim : lim - ((w' : Int) + (((t + 1 : Nat) : Int) - w')).toNat = lim - (t + 1) := by omega
  dsimp only at hacc
  rw [hlim] at hacc
  have eW : wiW (mkT lim looks rl) x mo qu p q (lim - (t + 1)) ((w' : Int), ((t + 1 : Nat) : Int) - w') m = if (decide (lk rl ((w' : Int), ((t + 1 : Nat) : Int) - w') = some x) && (stopL looks rl ((w' : Int), ((t + 1 : Nat) : Int) - w') || qu)) = true then q ^ (lim - (t + 1)) else if stopL looks rl ((w' : Int), ((t + 1 : Nat) : Int) - w') = false then wiG (mkT lim looks rl) x mo qu p q (lim - (t + 1)) ((w' : Int), ((t + 1 : Nat) : Int) - w') m else if (m : Int) < mo then wiG (mkT lim looks rl) x mo qu p q (lim - (t + 1)) ((w' : Int), ((t + 1 : Nat) : Int) - w') ((m : Int) + 1) else 0 := by
    unfold wiW wCond
    rw [ent, ge]
  have pa := @pot_add s.2 g0 (gB lim looks rl x mo qu p q (t + 1)) mo t w j w'
  unfold freeB at htn
  unfold halfB
  have hvb : vB lim looks rl x mo qu p q (t + 1) ((w' : Int), ((t + 1 : Nat) : Int) - w') m = wtC p q ((w' : Int), ((t + 1 : Nat) : Int) - w') * wiW (mkT lim looks rl) x mo qu p q (lim - (t + 1)) ((w' : Int), ((t + 1 : Nat) : Int) - w') m := rfl
  have hgb : ∀ k : Int, gB lim looks rl x mo qu p q (t + 1) ((w' : Int), ((t + 1 : Nat) : Int) - w') k = wtC p q ((w' : Int), ((t + 1 : Nat) : Int) - w') * wiG (mkT lim looks rl) x mo qu p q (lim - (t + 1)) ((w' : Int), ((t + 1 : Nat) : Int) - w') k := fun k => rfl
  have hac2 : hvN p q (cf (accS (fun _ => many) s.1 ((w' : Int), ((t + 1 : Nat) : Int) - w'))) lim = hvN p q (cf s.1) lim + many * (wtC p q ((w' : Int), ((t + 1 : Nat) : Int) - w') * q ^ (lim - (t + 1))) := by
    rw [hacc]; rfl
  rw [hvb]
  have mono : ∀ y z : Int, y ≤ z → many * (wtC p q ((w' : Int), ((t + 1 : Nat) : Int) - w') * y) ≤ many * (wtC p q ((w' : Int), ((t + 1 : Nat) : Int) - w') * z) := fun y z h => Int.mul_le_mul_of_nonneg_left (Int.mul_le_mul_of_nonneg_left h hwt) hn
  have hm0 := mono 0 _ w0
  rw [Int.mul_zero, Int.mul_zero] at hm0
  have pa0 := @pa m many hw hm
  rw [hgb] at pa0
  cases hs : stopL looks rl ((w' : Int), ((t + 1 : Nat) : Int) - w') with
  | true =>
    rw [hs] at htn eW
    cases tn with
    | true =>
      have hf := htn rfl
      simp only [Bool.true_and, Bool.not_true, Bool.false_and, Bool.or_false, Bool.and_eq_true, decide_eq_true_eq] at hf
      have pa1 := @pa (m + 1) many hw (by omega)
      rw [hgb, show ((m + 1 : Nat) : Int) = (m : Int) + 1 by omega] at pa1
      simp only [bne_self_eq_false, Bool.false_and, Bool.false_eq_true, if_false, if_true]
      rw [pa1]
      have : wiG (mkT lim looks rl) x mo qu p q (lim - (t + 1)) ((w' : Int), ((t + 1 : Nat) : Int) - w') ((m : Int) + 1) ≤ wiW (mkT lim looks rl) x mo qu p q (lim - (t + 1)) ((w' : Int), ((t + 1 : Nat) : Int) - w') m := by
        rw [eW]
        split
        · exact b1
        · rw [if_neg (by decide), if_pos (by omega)]
          exact Int.le_refl _
      have := mono _ _ this
      omega
    | false =>
      have e1 : (true != false) = true := rfl
      rw [e1, Bool.true_and, if_neg (by decide : ¬ (true = false))]
      by_cases hx : lk rl ((w' : Int), ((t + 1 : Nat) : Int) - w') = some x
      · rw [decide_eq_true hx, if_pos rfl, hac2]
        rw [decide_eq_true hx, Bool.true_or, Bool.and_true, if_pos rfl] at eW
        rw [eW]
        dsimp only
        omega
      · rw [decide_eq_false hx, if_neg (by decide)]
        dsimp only
        omega
  | false =>
    rw [hs] at htn eW
    cases tn with
    | true =>
      have hf := htn rfl
      simp only [Bool.false_and, Bool.not_false, Bool.true_and, Bool.false_or, Bool.and_eq_true] at hf
      have e1 : (false != true) = true := rfl
      rw [e1, Bool.true_and, if_neg (by decide : ¬ (true = false))]
      by_cases hx : lk rl ((w' : Int), ((t + 1 : Nat) : Int) - w') = some x
      · rw [decide_eq_true hx, if_pos rfl, hac2]
        rw [eW, if_pos (by rw [decide_eq_true hx, hf.1]; rfl)]
        dsimp only
        omega
      · rw [decide_eq_false hx, if_neg (by decide)]
        dsimp only
        omega
    | false =>
      simp only [bne_self_eq_false, Bool.false_and, Bool.false_eq_true, if_false, if_true]
      rw [Int.add_zero, pa0]
      have : wiG (mkT lim looks rl) x mo qu p q (lim - (t + 1)) ((w' : Int), ((t + 1 : Nat) : Int) - w') m ≤ wiW (mkT lim looks rl) x mo qu p q (lim - (t + 1)) ((w' : Int), ((t + 1 : Nat) : Int) - w') m := by
        rw [eW]
        split
        · exact a1
        · rw [if_pos rfl]; exact Int.le_refl _
      have := mono _ _ this
      omega
end VS
set_option Elab.async false
set_option linter.all false
set_option maxRecDepth 100000
set_option maxHeartbeats 2000000
/-! the state of a behaviour -/
namespace VS
open PySem PySem.Spec L2
def oneC : Cel := fun _ _ => 1
def twoC : Cel := fun _ _ => 2
/-- what every half step keeps -/
structure BhK (lim mo t w j : Nat) (b : Int) (s : List Int × Cel) : Prop where
  tr : Tr s.1
  len : s.1.length ≤ lim + 1
  nn : ∀ c m, 0 ≤ s.2 c m
  far : ∀ (c : Int × Int) (m : Int), (t : Int) + 1 < c.1 + c.2 → s.2 c m = 0
  sz : ∃ S : Int, 0 ≤ S ∧ (∀ i, ((cf s.1 i).natAbs : Int) ≤ S * 2 ^ 31) ∧ S + potB s.2 twoC oneC mo t w j ≤ b
theorem addF_nn {f : Cel} (h : ∀ c m, 0 ≤ f c m) {c : Int × Int} {m v : Int} (hv : 0 ≤ v) (d : Int × Int) (k : Int) : 0 ≤ addF f c m v d k := by
  unfold addF
  split
  · have := h d k; omega
  · exact h d k
theorem BhK.half {lim mo t w j : Nat} {b : Int} {s : List Int × Cel} (h : BhK lim mo t w j b s) (hl : lim ≤ 30) {looks : List Int} {rl : Al Str} {x : Str} {qu : Bool} (ht : t < lim) {w' : Nat} (hw : w' ≤ t + 1) {m : Nat} (hm : m ≤ mo) {many : Int} (hn : 0 ≤ many) {tn : Bool} (htn : tn = true → freeB lim looks rl mo qu t ((w' : Int), ((t + 1 : Nat) : Int) - w') m = true) :
    BhK lim mo t w j (b + many) (halfB looks rl x tn m many ((w' : Int), ((t + 1 : Nat) : Int) - w') s) := by
  obtain ⟨h1, h2, h3, h4, S, s0, s1, s2⟩ := h
  have pa := @pot_add s.2 twoC oneC mo t w j w'
  have key : ∀ k : Nat, k ≤ mo → BhK lim mo t w j (b + many) (s.1, addF s.2 ((w' : Int), ((t + 1 : Nat) : Int) - w') (k : Int) many) := fun k hk => by
    refine ⟨h1, h2, addF_nn h3 hn, fun c m' hc => ?_, S, s0, s1, ?_⟩
    · show addF s.2 _ _ _ c m' = 0
      rw [addF_ne fun z => by rw [z.1] at hc; dsimp only at hc; omega]
      exact h4 c m' hc
    · show S + potB (addF s.2 _ _ _) twoC oneC mo t w j ≤ _
      rw [@pa k many hw hk]
      show S + (_ + many * 1) ≤ _
      omega
  have acc : BhK lim mo t w j (b + many) (accS (fun _ => many) s.1 ((w' : Int), ((t + 1 : Nat) : Int) - w'), s.2) := by
    refine ⟨tr_trim _, ?_, h3, h4, S + many, by omega, fun i => ?_, by show S + many + potB s.2 _ _ mo t w j ≤ _; omega⟩
    · show (accS (fun _ => many) s.1 ((w' : Int), ((t + 1 : Nat) : Int) - w')).length ≤ lim + 1
      unfold accS
      refine Nat.le_trans (trim_len _) (Nat.le_trans (Nat.le_of_eq (len_add _ _)) ?_)
      have := trim_len (scL many (pathL (w' : Int).toNat (((t + 1 : Nat) : Int) - w').toNat))
      rw [len_sc, len_path] at this
      show max s.1.length (trimL (scL many (pathL (w' : Int).toNat (((t + 1 : Nat) : Int) - w').toNat))).length ≤ lim + 1
      omega
    · show ((cf (accS (fun _ => many) s.1 ((w' : Int), ((t + 1 : Nat) : Int) - w')) i).natAbs : Int) ≤ _
      unfold accS
      rw [cf_trim, cf_add, cf_trim, cf_sc]
      have p1 := s1 i
      have p2 : (cf (pathL (w' : Int).toNat (((t + 1 : Nat) : Int) - w').toNat) i).natAbs < 2 ^ 31 := by
        have := cf_sz (sz_path (w' : Int).toNat (((t + 1 : Nat) : Int) - w').toNat) i
        refine Nat.lt_of_lt_of_le this (Nat.pow_le_pow_right (by decide) ?_)
        omega
      have p3 : ((many * cf (pathL (w' : Int).toNat (((t + 1 : Nat) : Int) - w').toNat) i).natAbs : Int) ≤ many * 2 ^ 31 := by
        rw [Int.natAbs_mul, Int.natCast_mul, Int.natAbs_of_nonneg hn]
        exact Int.mul_le_mul_of_nonneg_left (by omega) hn
      rw [Int.add_mul]
      show ((cf s.1 i + many * cf (pathL (w' : Int).toNat (((t + 1 : Nat) : Int) - w').toNat) i).natAbs : Int) ≤ _
      omega
  have same : BhK lim mo t w j (b + many) s := ⟨h1, h2, h3, h4, S, s0, s1, by omega⟩
  unfold freeB at htn
  unfold halfB
  cases hs : stopL looks rl ((w' : Int), ((t + 1 : Nat) : Int) - w') with
  | true =>
    rw [hs] at htn
    cases tn with
    | true =>
      have hf := htn rfl
      simp only [Bool.true_and, Bool.not_true, Bool.false_and, Bool.or_false, Bool.and_eq_true, decide_eq_true_eq] at hf
      have := key (m + 1) (by omega)
      simp only [bne_self_eq_false, Bool.false_and, Bool.false_eq_true, if_false, if_true]
      exact this
    | false =>
      have e1 : (true != false) = true := rfl
      rw [e1, Bool.true_and, if_neg (by decide : ¬ (true = false))]
      split
      · exact acc
      · exact same
  | false =>
    rw [hs] at htn
    cases tn with
    | true =>
      have e1 : (false != true) = true := rfl
      rw [e1, Bool.true_and, if_neg (by decide : ¬ (true = false))]
      split
      · exact acc
      · exact same
    | false =>
      simp only [bne_self_eq_false, Bool.false_and, Bool.false_eq_true, if_false, if_true]
      have := key m hm
      rw [Int.add_zero]
      exact this
structure Bh (lim : Nat) (looks : List Int) (rl : Al Str) (x : Str) (mo : Nat) (qu : Bool) (t w j : Nat) (s : List Int × Cel) : Prop where
  k : BhK lim mo t w j (2 ^ (t + 1)) s
  val : ∀ p q : Int, 0 ≤ p → p ≤ q → hvN p q (cf s.1) lim + potB s.2 (gB lim looks rl x mo qu p q t) (gB lim looks rl x mo qu p q (t + 1)) mo t w j ≤ wiG (mkT lim looks rl) x mo qu p q lim (0, 0) 0
variable {lim : Nat} {looks : List Int} {rl : Al Str} {x : Str} {mo : Nat} {qu : Bool} {t w j : Nat} {s : List Int × Cel}
theorem Bh.cell (hv : Vr lim looks rl) (h : Bh lim looks rl x mo qu t w j s) (ht : t < lim) (hw : w ≤ t) (hj : j ≤ mo) {many : Int} (hm : many = s.2 ((w : Int), (t : Int) - w) j) {tn1 tn2 : Bool}
    (f1 : tn1 = true → freeB lim looks rl mo qu t (((w + 1 : Nat) : Int), ((t + 1 : Nat) : Int) - ((w + 1 : Nat) : Int)) j = true) (f2 : tn2 = true → freeB lim looks rl mo qu t ((w : Int), ((t + 1 : Nat) : Int) - w) j = true) :
    Bh lim looks rl x mo qu t w (j + 1) (halfB looks rl x tn2 j many ((w : Int), ((t + 1 : Nat) : Int) - w) (halfB looks rl x tn1 j many (((w + 1 : Nat) : Int), ((t + 1 : Nat) : Int) - ((w + 1 : Nat) : Int)) s)) := by
  have hn : 0 ≤ many := by rw [hm]; exact h.k.nn _ _
  constructor
  · have k1 : BhK lim mo t w (j + 1) (2 ^ (t + 1) - 2 * many) s := by
      obtain ⟨h1, h2, h3, h4, S, s0, s1, s2⟩ := h.k
      rw [pot_cell hj] at s2
      have e : cellV s.2 twoC t w j = many * 2 := by rw [hm]; rfl
      exact ⟨h1, h2, h3, h4, S, s0, s1, by omega⟩
    have k2 := (k1.half hv.l30 ht (show w + 1 ≤ t + 1 by omega) hj hn f1 (x := x)).half hv.l30 ht (show w ≤ t + 1 by omega) hj hn f2 (x := x)
    rw [show (2 : Int) ^ (t + 1) - 2 * many + many + many = 2 ^ (t + 1) by omega] at k2
    exact k2
  · intro p q h0 h1
    have a0 := h.val p q h0 h1
    rw [pot_cell hj] at a0
    have e : cellV s.2 (gB lim looks rl x mo qu p q t) t w j = many * gB lim looks rl x mo qu p q t ((w : Int), ((t - w : Nat) : Int)) j := by
      unfold cellV
      rw [hm, show ((t - w : Nat) : Int) = (t : Int) - w by omega]
    rw [e, cell_split ht, Int.mul_add] at a0
    have a1 := half_ok hv (x := x) (mo := mo) (qu := qu) h0 h1 ht (show w + 1 ≤ t + 1 by omega) hj hn f1 (w := w) (j := j + 1) (g0 := gB lim looks rl x mo qu p q t) (s := s)
    have a2 := half_ok hv (x := x) (mo := mo) (qu := qu) h0 h1 ht (show w ≤ t + 1 by omega) hj hn f2 (w := w) (j := j + 1) (g0 := gB lim looks rl x mo qu p q t) (s := halfB looks rl x tn1 j many (((w + 1 : Nat) : Int), ((t + 1 : Nat) : Int) - ((w + 1 : Nat) : Int)) s)
    rw [show ((t - w : Nat) : Int) + 1 = ((t + 1 : Nat) : Int) - w by omega, show ((w : Int) + 1, ((t - w : Nat) : Int)) = (((w + 1 : Nat) : Int), ((t + 1 : Nat) : Int) - ((w + 1 : Nat) : Int)) from Prod.ext (by show (w : Int) + 1 = ((w + 1 : Nat) : Int); omega) (by show ((t - w : Nat) : Int) = ((t + 1 : Nat) : Int) - ((w + 1 : Nat) : Int); omega)] at a0
    omega
theorem lev_zero {f g : Cel} {mo t i : Nat} (h : ∀ (c : Int × Int) (m : Int), c.1 + c.2 = t → f c m = 0) : levS f g mo t i = 0 := by
  have z : ∀ k, sumF k (fun _ => 0) = 0 := fun k => by
    induction k with
    | zero => rfl
    | succ k ih => show 0 + sumF k _ = 0; rw [ih]; rfl
  unfold levS
  rw [sumF_congr (h' := fun _ => 0) fun d _ => ?_, z]
  unfold rowS
  rw [sumF_congr (h' := fun _ => 0) fun e _ => ?_, z]
  unfold cellV
  rw [h _ _ (by dsimp only; omega), Int.zero_mul]
theorem pot_start {f g0 g1 : Cel} {mo t : Nat} : potB f g0 g1 mo t 0 0 = levS f g0 mo t 0 + levS f g1 mo (t + 1) 0 := by
  unfold potB
  rw [lev_step (f := f) (g := g0) (mo := mo) (t := t) (i := 0) (Nat.zero_le _)]
def delC : Cel := addF (fun _ _ => 0) ((0 : Nat), ((0 : Nat) : Int) - (0 : Nat)) (0 : Nat) 1
theorem Bh.zero : Bh lim looks rl x mo qu 0 0 0 ([], delC) := by
  have z0 : ∀ g : Cel, levS (fun _ _ => 0) g mo 0 0 = 0 := fun g => lev_zero fun _ _ _ => rfl
  have l0 : ∀ g : Cel, levS delC g mo 0 0 = g (0, 0) 0 := fun g => by
    unfold delC
    rw [lev_add (Nat.le_refl _) (Nat.zero_le _), z0, Int.zero_add, Int.one_mul]
    rfl
  have l1 : ∀ g : Cel, levS delC g mo 1 0 = 0 := fun g => lev_zero fun c m hc => addF_ne fun z => by rw [z.1] at hc; exact absurd hc (by decide)
  refine ⟨⟨tr_nil, Nat.zero_le _, addF_nn (fun _ _ => Int.le_refl _) (by decide), fun c m hc => by show delC c m = 0; unfold delC; rw [addF_ne fun z => by rw [z.1] at hc; exact absurd hc (by decide)], 0, Int.le_refl _, fun i => by rw [cf_nil]; decide, ?_⟩, fun p q a b => ?_⟩
  · show 0 + potB delC twoC oneC mo 0 0 0 ≤ _
    rw [pot_start, l0, l1]
    decide
  · show hvN p q (cf []) lim + potB delC _ _ mo 0 0 0 ≤ _
    rw [pot_start, l0, l1]
    have e : hvN p q (cf []) lim = 0 := by rw [hv_congr (g := fun _ => 0) fun i => cf_nil i]; exact hv_zero p q lim
    rw [e]
    unfold gB wtC
    show 0 + (p ^ 0 * (q - p) ^ 0 * _ + 0) ≤ _
    rw [Int.pow_zero, Int.pow_zero]
    show 0 + (1 * 1 * wiG (mkT lim looks rl) x mo qu p q (lim - 0) (0, 0) 0 + 0) ≤ _
    rw [Nat.sub_zero]
    omega
end VS
set_option Elab.async false
set_option linter.all false
set_option maxRecDepth 100000
set_option maxHeartbeats 2000000
/-! tuples put together stand as keys; a dict that counts ways -/
namespace VS
open PySem PySem.Spec L2
section
variable {X : Cx} {R : Reg} {G : List Sl} {pos : Pos} {k : Kt}
end
/-- the dict that holds the ways f -/
def WyD (f : Cel) (ks : List (List Key)) (xs : List Dt) : Prop := ks.length = xs.length ∧ ∀ (c : Int × Int) (m : Int), (lookT ks xs (k3 c m)).getD (.int 0) = .int (f c m)
theorem WyD.put {f : Cel} {ks : List (List Key)} {xs : List Dt} (h : WyD f ks xs) {c : Int × Int} {m v u : Int} (hu : u = f c m + v) : WyD (addF f c m v) (putT ks (k3 c m)) (putX ks xs (k3 c m) (.int u)) := by
  refine ⟨putX_len h.1, fun d k => ?_⟩
  rw [look_put h.1]
  by_cases e : k3 c m = k3 d k
  · rw [if_pos e]
    obtain ⟨rfl, rfl⟩ := k3_inj.mp e
    rw [addF_eq, hu]
    rfl
  · rw [if_neg e, addF_ne fun z => e (k3_inj.mpr ⟨z.1.symm, z.2.symm⟩)]
    exact h.2 d k
theorem WyD.zero : WyD delC [k3 (0, 0) 0] [.int 1] := by
  refine ⟨rfl, fun c m => ?_⟩
  show (if k3 (0, 0) 0 = k3 c m then some (Dt.int 1) else none).getD (.int 0) = _
  by_cases e : k3 (0, 0) 0 = k3 c m
  · obtain ⟨rfl, rfl⟩ := k3_inj.mp e
    rw [if_pos e]
    rfl
  · rw [if_neg e]
    have : delC c m = 0 := by
      unfold delC
      exact addF_ne (f := fun _ _ => 0) fun z => e (k3_inj.mpr ⟨z.1.symm, z.2.symm⟩)
    rw [this]
    rfl
end VS
set_option Elab.async false
set_option linter.all false
set_option maxRecDepth 100000
/-! == of dicts whose keys are tuples, also inside tuples and lists -/
namespace PySem.SeqAt
open Lean Elab Tactic Meta PySem PySem.Calls PyProof.Rows PyProof.V PySem.Spec
section
variable {prog : Program} {w : World} {K : Type} [DecidableEq K] {knd : HeapKind prog w K} {A : Around} {E : Value → Shared → Prop} {s : Shared}
inductive HitsH (prog : Program) (w : World) {K : Type} [DecidableEq K] (A : Around) (s : Shared) (ys : List (K × Addr × Value)) : List (K × Addr × Value) → Bool → Prop
  | nil : HitsH prog w A s ys [] true
  | miss {k : K} {p : Addr} {v : Value} {r : List (K × Addr × Value)} : atKey ys k = none → HitsH prog w A s ys ((k, p, v) :: r) false
  | hit {k : K} {p q : Addr} {v y : Value} {r : List (K × Addr × Value)} {e b : Bool} : atKey ys k = some (q, y) → EqIn prog w A s v y e → HitsH prog w A s ys r b → HitsH prog w A s ys ((k, p, v) :: r) (e && b)
end
end PySem.SeqAt
namespace VS
open PySem PySem.Spec L2 PySem.SeqAt
/-- == of data that hold dicts -/
def eqX : Nat → Dt → Dt → Bool
  | n + 1, .tup xs, .tup ys => if (okD (.tup xs) && okD (.tup ys)) = true then eqD (.tup xs) (.tup ys) else (xs.length == ys.length) && (xs.zip ys).all fun p => eqX n p.1 p.2
  | n + 1, .dT ks xs, .dT ls ys => ks.length == ls.length && (ks.zip xs).all fun p => match lookT ls ys p.1 with | none => false | some y => eqX n p.2 y
  | _, a, b => eqD a b
def okP : Nat → Dt → Dt → Bool
  | n + 1, .tup xs, .tup ys => (okD (.tup xs) && okD (.tup ys)) || (xs.zip ys).all fun p => okP n p.1 p.2
  | n + 1, .dT ks xs, .dT ls ys => (ks.zip xs).all fun p => match lookT ls ys p.1 with | none => true | some y => okP n p.2 y
  | _, a, b => okD a && okD b
section
variable {X : Cx} {pins : List (Addr × Obj)} {σ : St} {F H : Hp} {s : Shared}
end
section
variable {X : Cx} {R : Reg} {G : List Sl} {pos : Pos} {k : Kt}
end
end VS
set_option Elab.async false
set_option linter.all false
set_option maxRecDepth 100000
/-! tables that are equal -/
namespace VS
open PySem PySem.Spec L2
def alE (a b : Al Str) : Bool := a.length == b.length && a.all fun e => match lk b e.1 with | none => false | some y => decide (e.2 = y)
def tbE (T1 T2 : Tb) : Bool := decide (T1.lim = T2.lim) && (decide (T1.looks = T2.looks) && alE T1.ent T2.ent)
abbrev tripD (T : Tb) : Dt := .tup [.int (T.lim : Nat), .tup (T.looks.map .int), dA .str T.ent]
theorem lk_memE {α : Type} : ∀ {m : Al α} {p : Int × Int} {a : α}, lk m p = some a → (p, a) ∈ m
  | e :: m, p, a, h => by
    unfold lk at h
    by_cases z : e.1 = p
    · rw [if_pos z] at h
      cases h
      rw [← z]
      exact List.mem_cons_self
    · rw [if_neg z] at h
      exact List.mem_cons_of_mem _ (lk_memE h)
theorem lk_nd {α : Type} : ∀ {m : Al α} {e : (Int × Int) × α}, (m.map (·.1)).Nodup → e ∈ m → lk m e.1 = some e.2
  | q :: m, e, nd, h => by
    rw [List.map_cons, List.nodup_cons] at nd
    unfold lk
    rcases List.mem_cons.mp h with rfl | h
    · rw [if_pos rfl]
    · rw [if_neg (fun z => nd.1 (by rw [z]; exact List.mem_map.mpr ⟨e, h, rfl⟩))]
      exact lk_nd nd.2 h
theorem lk_noneE {α : Type} : ∀ {m : Al α} {p : Int × Int}, lk m p = none → p ∉ m.map (·.1)
  | [], _, _ => by simp
  | e :: m, p, h => by
    unfold lk at h
    by_cases z : e.1 = p
    · rw [if_pos z] at h; cases h
    · rw [if_neg z] at h
      rw [List.map_cons, List.mem_cons]
      rintro (q | q)
      · exact z q.symm
      · exact lk_noneE h q
theorem put_nd {α : Type} {m : Al α} (h : (m.map (·.1)).Nodup) (p : Int × Int) (a : α) : ((put m p a).map (·.1)).Nodup := by
  unfold put
  split
  · rw [List.map_map]
    have e : ((fun e : (Int × Int) × α => e.1) ∘ fun e : (Int × Int) × α => if e.1 = p then (e.1, a) else e) = fun e => e.1 := by
      funext e
      show (if e.1 = p then (e.1, a) else e).1 = e.1
      split <;> rfl
    rw [e]
    exact h
  · rename_i hz
    rw [List.map_append, List.nodup_append]
    refine ⟨h, by simp, fun x hx y hy => ?_⟩
    simp only [List.map_cons, List.map_nil, List.mem_singleton] at hy
    subst hy
    rintro rfl
    refine lk_noneE (m := m) (p := x) ?_ hx
    unfold has at hz
    cases z : lk m x with
    | none => rfl
    | some v => rw [z] at hz; exact absurd rfl hz
theorem ent_nd (rl : Al Str) : ∀ (L : List (Int × Int)) (m : Al Str), (m.map (·.1)).Nodup → ((L.foldl (entStep rl) m).map (·.1)).Nodup
  | [], m, h => h
  | c :: L, m, h => by
    rw [List.foldl_cons]
    refine ent_nd rl L _ ?_
    unfold entStep
    split
    · exact put_nd h _ _
    · exact h
theorem mkT_nd (lim : Nat) (looks : List Int) (rl : Al Str) : ((mkT lim looks rl).ent.map (·.1)).Nodup := ent_nd rl _ [] List.nodup_nil
theorem mkT_wd {lim : Nat} {looks : List Int} {rl : Al Str} (h : Vr lim looks rl) : ∀ e ∈ (mkT lim looks rl).ent, Wd e.2 := fun e he => by
  have : lk (mkT lim looks rl).ent e.1 = some e.2 := lk_nd (mkT_nd lim looks rl) he
  rw [show (mkT lim looks rl).ent = entOf rl lim from rfl, lk_ent h.keys] at this
  exact h.words _ (lk_memE this)
def StrT (T : Tb) : Prop := (T.ent.map (·.1)).Nodup ∧ ∀ e ∈ T.ent, PyData.strOk e.2 = true
def ph_Table___eq__ (C : Addr) : Ph := fun ds q _ => ∃ T1 T2 : Tb, ds = [tabD C T1, tabD C T2] ∧ (StrT T1 ∧ StrT T2) ∧ q (.bl (tbE T1 T2))
end VS
set_option Elab.async false
set_option linter.all false
set_option maxRecDepth 100000
/-! name = {k: v for ..}, the keys tuples -/
namespace VS
open PySem PySem.Spec L2
section
variable {X : Cx}
variable {R : Reg} {G : List Sl} {pos : Pos} {k : Kt}
end
end VS
set_option Elab.async false
set_option linter.all false
set_option maxRecDepth 100000
set_option maxHeartbeats 2000000
/-! {k: v for x in d}: a dict with tuple keys walked by a comprehension; plain values -/
namespace VS
open PySem PySem.Spec L2
def flD : Dt → Bool
  | .non | .bl _ | .int _ | .str _ => true
  | _ => false
def noOw : Sl → Bool
  | .ow _ => false
  | _ => true
section
variable {X : Cx} {R : Reg} {G : List Sl} {pos : Pos} {k : Kt}
end
end VS
set_option Elab.async false
set_option linter.all false
set_option maxRecDepth 100000
set_option maxHeartbeats 2000000
/-! list(d), d a dict with tuple keys -/
namespace VI
open PySem PySem.Spec PyProof.Rows L2
/-- the tuples of the keys -/
def KeyAt (H : Hp) : List (List Key × V) → List V → Prop := Paired fun p x => ∃ a, x = .ref a ∧ H a = some (.tup (p.1.map kV))
def tListKeysT (te : TE) : TE := fun σ H Q => te σ H fun x H1 => ∃ (d : Addr) (kvs : List (List Key × V)), x = .ref d ∧ Rd H1 d (.dT kvs) ∧ ∀ q xs, H1 q = none → KeyAt H1 kvs xs → Q (.ref q) (upd H1 q (.lst xs))
section
variable {X : Cx} {e : Expr} {te : TE} {p pos : Pos}
end
end VI
namespace VS
open PySem PySem.Spec L2
theorem Wf.reveal {R : Reg} {F H : Hp} {a : Addr} {xs : List V} (w : Wf R F H) (h : H a = some (.tup xs)) : Ext R F H (upd F a (.tup xs)) H := by
  refine ⟨⟨fun z o hz => ?_, fun z m => ?_, w.oc, w.b⟩, fun z o hz => ?_, fun _ _ _ h => h, fun z nt n => ?_⟩
  · by_cases e : z = a
    · subst e; rw [upd_same] at hz; rw [h]; exact hz
    · rw [upd_ne e] at hz; exact w.fh _ _ hz
  · by_cases e : z = a
    · subst e
      obtain ⟨u, h1, h2⟩ := w.oc z m
      rw [h] at h1
      exact absurd (Option.some.inj h1).symm (h2 xs)
    · rw [upd_ne e]; exact w.off z m
  · by_cases e : z = a
    · subst e
      have := w.fh _ _ hz
      rw [h] at this
      rw [upd_same, this]
    · rw [upd_ne e]; exact hz
  · by_cases e : z = a
    · subst e
      obtain ⟨u, h1, h2⟩ := nt
      rw [h] at h1
      exact absurd (Option.some.inj h1).symm (h2 xs)
    · rw [upd_ne e]; exact n
section
variable {X : Cx} {R : Reg} {G : List Sl} {pos : Pos} {k : Kt}
end
end VS
set_option Elab.async false
set_option linter.all false
set_option maxRecDepth 100000
/-! != of dicts whose keys are tuples -/
namespace PySem.SeqAt
open Lean Elab Tactic Meta PySem PySem.Calls PyProof.Rows PyProof.V PySem.Spec
section
variable {prog : Program} {w : World} {K : Type} [DecidableEq K] {knd : HeapKind prog w K} {A : Around} {E : Value → Shared → Prop} {s : Shared}
end
end PySem.SeqAt
namespace VS
open PySem PySem.Spec L2 PySem.SeqAt
section
variable {X : Cx} {R : Reg} {G : List Sl} {pos : Pos} {k : Kt}
end
end VS
set_option Elab.async false
set_option linter.all false
set_option maxRecDepth 100000
/-! o.m(e, ..) that may raise -/
namespace VS
open PySem PySem.Spec L2
section
variable {X : Cx} {R : Reg} {G : List Sl} {pos : Pos} {k : Kt} {W : WX}
def tMethSD (C : Addr) (m : Str) (sp : Sp) (dvs : List V) (E : L2.St → XK) (ta : TE) (t : TA) : TE := fun σ H Q => ta σ H fun x H1 => ∃ a dx fs, x = .ref a ∧ H1 a = some (.ins C dx fs) ∧ fs.lookup m = none ∧ t σ H1 fun vs H2 => sp (x :: (vs ++ dvs)) H2 Q (E σ)
end
end VS
set_option Elab.async false
set_option linter.all false
set_option maxRecDepth 100000
/-! plain: a look more, a look less -/
namespace VS
open PySem PySem.Spec L2
def addLk (lim : Nat) (looks : List Int) (t : Int) : List Int := (oneTo lim).filter fun k => decide (k = t) || inI looks k
def remLk (looks : List Int) (t : Int) : List Int := looks.filter fun k => !decide (k = t)
theorem Vr.ent {lim : Nat} {looks : List Int} {rl : Al Str} (h : Vr lim looks rl) : Vr lim looks (entOf rl lim) where
  l1 := h.l1
  l30 := h.l30
  len := h.len
  asc := h.asc
  one := h.one
  last := h.last
  keys := fun e he => by
    have : lk (entOf rl lim) e.1 = some e.2 := lk_nd (mkT_nd lim looks rl) he
    rw [lk_ent h.keys] at this
    exact h.keys _ (lk_memE this)
  words := fun e he => mkT_wd h e he
  full := fun j hj => by
    unfold has
    rw [lk_ent h.keys]
    exact h.full j hj
def ph_Table_with_look (C CI : Addr) : Ph := fun ds q x => ∃ (lim : Nat) (looks : List Int) (rl : Al Str) (t : Int), ds = [tabD C (mkT lim looks rl), .int t] ∧ Vr lim looks rl ∧ (1 ≤ t ∧ t ≤ lim → q (tabD C (mkT lim (addLk lim looks t) rl))) ∧ (¬ (1 ≤ t ∧ t ≤ lim) → x CI ["place"] [.str "looks"])
def ph_Table_without_look (C CI : Addr) : Ph := fun ds q x => ∃ (lim : Nat) (looks : List Int) (rl : Al Str) (t : Int), ds = [tabD C (mkT lim looks rl), .int t] ∧ Vr lim looks rl ∧ (1 ≤ t ∧ t < lim → q (tabD C (mkT lim (remLk looks t) rl))) ∧ (¬ (1 ≤ t ∧ t < lim) → x CI ["place"] [.str "looks"])
def okL (lim : Nat) (t : Int) (b : Bool) : Bool := decide (1 ≤ t) && (decide (t ≤ lim) && (b || decide (t < lim)))
def chL (lim : Nat) (looks : List Int) (t : Int) (b : Bool) : List Int := if b = true then addLk lim looks t else remLk looks t
def dueF (looks : List Int) (t : Int) (b : Bool) (k : Int) : Bool := (inI looks k && (b || !decide (k = t))) || (b && decide (k = t))
def ph__law_asked (C CI : Addr) : Ph := fun ds q x => ∃ (lim : Nat) (looks : List Int) (rl : Al Str) (t : Int) (b : Bool), ds = [tabD C (mkT lim looks rl), .int t, .bl b] ∧ Vr lim looks rl ∧ (okL lim t b = true → q (tabD C (mkT lim (chL lim looks t b) rl))) ∧ (okL lim t b = false → x CI ["place"] [.str "looks"])
def ph__law_stands (C : Addr) : Ph := fun ds q _ => ∃ (lim : Nat) (looks : List Int) (rl : Al Str), ds = [tabD C (mkT lim looks rl), ptD lim looks rl] ∧ Vt lim looks rl ∧ q (.bl true)
def ph__law_agreesL (C CI : Addr) : Ph := fun ds q _ => ∃ (lim : Nat) (looks : List Int) (rl : Al Str) (t : Int) (b : Bool), ds = [ptD lim looks rl, .int t, .bl b] ∧ Vt lim looks rl ∧ q (.bl true)
theorem Nd_cast {ks : List (Nat × Nat)} (h : ks.Nodup) : (ks.map castP).Nodup := List.Pairwise.map _ (fun a b hn z => hn (by unfold castP at z; have h1 := congrArg Prod.fst z; have h2 := congrArg Prod.snd z; simp at h1 h2; exact Prod.ext (by omega) (by omega))) h
theorem cnN_nd {n : Nat} : (cnN n).Nodup := by
  have h := cnt_nd n
  rw [cnt_cast] at h
  exact List.Pairwise.of_map castP (fun a b hn z => hn (by rw [z])) h
end VS
set_option Elab.async false
set_option linter.all false
set_option maxRecDepth 100000
/-! xs[::e], e 1 or -1 -/
namespace VS
open PySem PySem.Spec PyProof.Rows L2
def tStepL (K : PySem.W.Frag) (te ts : TE) : TE := fun σ H Q => te σ H fun x H1 => ∃ a xs, x = .ref a ∧ tPart ts σ H1 fun o H2 => ∃ z, o = some z ∧ (z = 1 ∨ z = -1) ∧ SqL K H2 a xs ∧ ∀ p, H2 p = none → Q (.ref p) (upd H2 p (.lst (if z = 1 then xs else xs.reverse)))
section
variable {X : Cx} {R : Reg} {G : List Sl} {pos : Pos}
end
end VS
set_option Elab.async false
set_option linter.all false
set_option maxRecDepth 100000
/-! xs[k:k+3:2]; xs + ys as a new list -/
namespace VS
open PySem PySem.Spec PyProof.Rows L2
def tStep3 (K : PySem.W.Frag) (te tl th ts : TE) : TE := fun σ H Q => te σ H fun x H1 => ∃ a, x = .ref a ∧ tPart tl σ H1 fun o1 H2 => tPart th σ H2 fun o2 H3 => tPart ts σ H3 fun o H4 => ∃ (k : Nat) (xs : List V) (u v : V), o1 = some (k : Int) ∧ o2 = some ((k : Int) + 3) ∧ o = some 2 ∧ SqL K H4 a xs ∧ k + 3 ≤ xs.length ∧ xs[k]? = some u ∧ xs[k + 2]? = some v ∧ ∀ p, H4 p = none → Q (.ref p) (upd H4 p (.lst [u, v]))
section
variable {X : Cx} {R : Reg} {G : List Sl} {pos : Pos}
end
end VS
set_option Elab.async false
set_option linter.all false
set_option maxRecDepth 100000
/-! objects that are changed by their methods: an object with lists of its own. -/
namespace VS
open PySem PySem.Spec L2
inductive Fd where
  | dt (d : Dt)
  | li (l : Addr) (xs : List Dt)
def Fd.d : Fd → Dt
  | .dt d => d
  | .li _ xs => .lst xs
def las : List Fd → List Addr
  | [] => []
  | .dt _ :: r => las r
  | .li l _ :: r => l :: las r
structure Ob where
  p : Addr
  C : Addr
  ns : List Str
  fs : List Fd
def Ob.cs (o : Ob) : List Addr := o.p :: las o.fs
/-- the object as data -/
def Ob.dt (o : Ob) : Dt := .obj o.C o.ns (o.fs.map Fd.d)
def FdsOk (K : PySem.W.Frag) (F H : Hp) : List Fd → List V → Prop
  | [], vs => vs = []
  | .dt d :: r, vs => ∃ v us, vs = v :: us ∧ Rp K F d v ∧ FdsOk K F H r us
  | .li l xs :: r, vs => ∃ us ws, vs = .ref l :: us ∧ H l = some (.lst ws) ∧ RpL K F xs ws ∧ FdsOk K F H r us
def Ob.Ok (K : PySem.W.Frag) (F H : Hp) (o : Ob) : Prop := ∃ dx vs, H o.p = some (.ins o.C dx (o.ns.zip vs)) ∧ o.ns.length = vs.length ∧ FdsOk K F H o.fs vs
def cells (τ : List Ob) : List Addr := τ.flatMap Ob.cs
theorem mem_cells {τ : List Ob} {a : Addr} : a ∈ cells τ ↔ ∃ o ∈ τ, a ∈ o.cs := List.mem_flatMap
section
variable {K : PySem.W.Frag} {R : Reg} {F H F' H' : Hp}
theorem FdsOk.mono : ∀ {fs : List Fd} {vs : List V}, FdsOk K F H fs vs → Same F F' → (∀ a ∈ las fs, ∀ u, H a = some u → H' a = some u) → FdsOk K F' H' fs vs
  | [], _, h, _, _ => h
  | .dt d :: r, _, ⟨v, us, e, h1, h2⟩, ff, hh => ⟨v, us, e, h1.mono ff, h2.mono ff hh⟩
  | .li l xs :: r, _, ⟨us, ws, e, h1, h2, h3⟩, ff, hh => ⟨us, ws, e, hh l List.mem_cons_self _ h1, h2.mono ff, h3.mono ff fun a ha => hh a (List.mem_cons_of_mem _ ha)⟩
theorem Ob.Ok.mono {o : Ob} (h : o.Ok K F H) (ff : Same F F') (hh : ∀ a ∈ o.cs, ∀ u, H a = some u → H' a = some u) : o.Ok K F' H' := by
  obtain ⟨dx, vs, h1, h2, h3⟩ := h
  exact ⟨dx, vs, hh o.p List.mem_cons_self _ h1, h2, h3.mono ff fun a ha => hh a (List.mem_cons_of_mem _ ha)⟩
theorem FdsOk.cell : ∀ {fs : List Fd} {vs : List V}, FdsOk K F H fs vs → ∀ a ∈ las fs, ∃ ws, H a = some (.lst ws)
  | [], _, _, a, ha => nomatch ha
  | .dt d :: r, _, ⟨v, us, e, h1, h2⟩, a, ha => h2.cell a ha
  | .li l xs :: r, _, ⟨us, ws, e, h1, h2, h3⟩, a, ha => by
    rcases List.mem_cons.mp ha with rfl | ha
    · exact ⟨ws, h1⟩
    · exact h3.cell a ha
/-- the kind of a cell -/
theorem Ob.Ok.kind {o : Ob} (h : o.Ok K F H) {a : Addr} (ha : a ∈ o.cs) : ∃ u, H a = some u ∧ (isK 0 u ∨ isK 2 u) := by
  obtain ⟨dx, vs, h1, h2, h3⟩ := h
  rcases List.mem_cons.mp ha with rfl | ha
  · exact ⟨_, h1, .inr ⟨_, _, _, rfl⟩⟩
  · obtain ⟨ws, h⟩ := h3.cell a ha
    exact ⟨_, h, .inl ⟨_, rfl⟩⟩
theorem isK_nt {u : HO} (h : isK 0 u ∨ isK 2 u) : ∀ xs, u ≠ .tup xs := fun xs e => by
  rcases h with ⟨ws, rfl⟩ | ⟨C, dx, fs, rfl⟩ <;> cases e
theorem Ob.Ok.nt {o : Ob} (h : o.Ok K F H) {a : Addr} (ha : a ∈ o.cs) : NT (H a) := by
  obtain ⟨u, h1, h2⟩ := h.kind ha
  exact ⟨u, h1, isK_nt h2⟩
theorem FdsOk.len : ∀ {fs : List Fd} {vs : List V}, FdsOk K F H fs vs → fs.length = vs.length
  | [], _, h => by rw [show _ = ([] : List V) from h]; rfl
  | .dt d :: r, _, ⟨v, us, e, h1, h2⟩ => by rw [e, List.length_cons, List.length_cons, h2.len]
  | .li l xs :: r, _, ⟨us, ws, e, h1, h2, h3⟩ => by rw [e, List.length_cons, List.length_cons, h3.len]
end
/-! ### states with objects -/
structure TwT (K : PySem.W.Frag) (R : Reg) (τ : List Ob) (F H : Hp) : Prop where
  wf : Wf R F H
  ok : ∀ o ∈ τ, o.Ok K F H
  nd : (cells τ).Nodup
  off : ∀ a ∈ cells τ, F a = none ∧ ¬ R.M a
structure TyT (K : PySem.W.Frag) (R : Reg) (τ : List Ob) (G : List Sl) (σ : St) (F H : Hp) : Prop extends TwT K R τ F H where
  sl : SlsOk K R F H G σ
  ndo : (owns G σ).Nodup
  no : ∀ a ∈ cells τ, a ∉ owns G σ
/-- from τ0, F0, H0 on -/
structure ExT (R : Reg) (τ0 τ : List Ob) (F0 H0 F H : Hp) : Prop where
  ff : Same F0 F
  hh : ∀ a o, ¬ R.M a → a ∉ cells τ0 → H0 a = some o → H a = some o
  fr : ∀ a, NT (H0 a) → F0 a = none → F a = none
  oc : ∀ a ∈ cells τ0, NT (H a)
  mm : ∀ a ∈ cells τ, a ∈ cells τ0 ∨ H0 a = none
  c0 : ∀ a ∈ cells τ0, H0 a ≠ none
section
variable {K : PySem.W.Frag} {R : Reg} {τ τ0 τ' : List Ob} {G : List Sl} {σ : St} {F H F' H' F0 H0 : Hp}
theorem TyT.ty (t : TyT K R τ G σ F H) : Ty K R G σ F H := ⟨t.wf, t.sl, t.ndo⟩
theorem TwT.nt (t : TwT K R τ F H) {a : Addr} (ha : a ∈ cells τ) : NT (H a) := by
  obtain ⟨o, ho, h⟩ := mem_cells.mp ha
  exact (t.ok o ho).nt h
theorem ExT.refl (t : TwT K R τ F H) : ExT R τ τ F H F H := ⟨.refl _, fun _ _ _ _ h => h, fun _ _ h => h, fun a ha => t.nt ha, fun a ha => .inl ha, fun a ha => (t.nt ha).ne⟩
theorem ExT.nt (e : ExT R τ0 τ F0 H0 F H) (w : Wf R F H) {a : Addr} (h : NT (H0 a)) : NT (H a) := by
  by_cases m : R.M a
  · exact w.oc a m
  · by_cases c : a ∈ cells τ0
    · exact e.oc a c
    · obtain ⟨u, h1, h2⟩ := h
      exact ⟨u, e.hh a u m c h1, h2⟩
theorem ExT.ne (e : ExT R τ0 τ F0 H0 F H) (w : Wf R F H) {a : Addr} (h : H0 a ≠ none) : H a ≠ none := by
  by_cases m : R.M a
  · exact (w.oc a m).ne
  · by_cases c : a ∈ cells τ0
    · exact (e.oc a c).ne
    · cases z : H0 a with
      | none => exact absurd z h
      | some u => rw [e.hh a u m c z]; exact fun z => nomatch z
theorem ExT.trans (a : ExT R τ0 τ F0 H0 F H) (w : TwT K R τ F H) (b : ExT R τ τ' F H F' H') (w' : Wf R F' H') : ExT R τ0 τ' F0 H0 F' H' := by
  refine ⟨a.ff.trans b.ff, fun x o m c h => ?_, fun x h n => b.fr x (a.nt w.wf h) (a.fr x h n), fun x c => b.nt w' (a.oc x c), fun x c => ?_, a.c0⟩
  · refine b.hh x o m (fun z => ?_) (a.hh x o m c h)
    rcases a.mm x z with z | z
    · exact c z
    · rw [z] at h; cases h
  · rcases b.mm x c with z | z
    · exact a.mm x z
    · refine .inr (Classical.byContradiction fun n => a.ne w.wf n z)
theorem ExT.of (t : TwT K R τ F H) (e : Ext R F H F' H') : ExT R τ τ F H F' H' := by
  refine ⟨e.ff, fun a o m _ h => e.hh a o m h, e.fr, fun a ha => ?_, fun a ha => .inl ha, fun a ha => (t.nt ha).ne⟩
  obtain ⟨u, h1, h2⟩ := t.nt ha
  exact ⟨u, e.hh a u (t.off a ha).2 h1, h2⟩
theorem TwT.ext (t : TwT K R τ F H) (e : Ext R F H F' H') : TwT K R τ F' H' := by
  have hm : ∀ {o : Ob}, o ∈ τ → ∀ a ∈ o.cs, a ∈ cells τ := fun ho a ha => mem_cells.mpr ⟨_, ho, ha⟩
  exact ⟨e.wf, fun o ho => (t.ok o ho).mono e.ff fun a ha u h => e.hh a u (t.off a (hm ho a ha)).2 h, t.nd, fun a ha => ⟨e.fr a (t.nt ha) (t.off a ha).1, (t.off a ha).2⟩⟩
theorem TyT.ext (t : TyT K R τ G σ F H) (e : Ext R F H F' H') : TyT K R τ G σ F' H' := ⟨t.toTwT.ext e, t.sl.ext e, t.ndo, t.no⟩
open Classical in
noncomputable def bsH (R : Reg) (τ : List Ob) (H0 H : Hp) : Hp := fun a => if H0 a ≠ none ∨ a ∈ cells τ ∨ R.M a then H a else none
theorem bsH_eq {a : Addr} (h : H0 a ≠ none ∨ a ∈ cells τ ∨ R.M a) : bsH R τ H0 H a = H a := by unfold bsH; rw [if_pos h]
end
end VS
set_option Elab.async false
set_option linter.all false
set_option maxRecDepth 100000
/-! statements with objects -/
namespace VS
open PySem PySem.Spec L2
structure KtT where
  nx : List Ob → List Sl → Prop
  rt : List Ob → Dt → Prop
  bk : List Ob → List Sl → Prop := fun _ _ => False
  ct : List Ob → List Sl → Prop := fun _ _ => False
structure KOkT (K : PySem.W.Frag) (R : Reg) (τ0 : List Ob) (F0 H0 : Hp) (k : KtT) (D : Ends) : Prop where
  nx : ∀ τ G σ F H, k.nx τ G → TyT K R τ G σ F H → ExT R τ0 τ F0 H0 F H → (∀ o ∈ owns G σ, H0 o = none) → D.nx σ H
  rt : ∀ τ d v F H, k.rt τ d → TwT K R τ F H → ExT R τ0 τ F0 H0 F H → Rp K F d v → D.rt v H
  bk : ∀ τ G σ F H, k.bk τ G → TyT K R τ G σ F H → ExT R τ0 τ F0 H0 F H → (∀ o ∈ owns G σ, H0 o = none) → D.bk σ H
  ct : ∀ τ G σ F H, k.ct τ G → TyT K R τ G σ F H → ExT R τ0 τ F0 H0 F H → (∀ o ∈ owns G σ, H0 o = none) → D.ct σ H
def ST (X : Cx) (R : Reg) (τ : List Ob) (ss : List Stmt) (G : List Sl) (k : KtT) : Prop := ∀ τ0 F0 H0 σ F H D, TyT X.K R τ G σ F H → ExT R τ0 τ F0 H0 F H → (∀ o ∈ owns G σ, H0 o = none) → KOkT X.K R τ0 F0 H0 k D → sOf X ss D σ H
def ST1 (X : Cx) (R : Reg) (τ : List Ob) (st : Stmt) (G : List Sl) (k : KtT) : Prop := ∀ τ0 F0 H0 σ F H D, TyT X.K R τ G σ F H → ExT R τ0 τ F0 H0 F H → (∀ o ∈ owns G σ, H0 o = none) → KOkT X.K R τ0 F0 H0 k D → s1Of X st D σ H
section
variable {X : Cx} {R : Reg} {τ τ' τ0 : List Ob} {G : List Sl} {pos : Pos} {k : KtT} {F0 H0 F H F' H' : Hp} {σ σ' : St}
end
/-! ### lent -/
open Classical in
noncomputable def lentF (τ : List Ob) (F H : Hp) : Hp := fun a => if a ∈ cells τ then H a else F a
open Classical in
noncomputable def backF (τ : List Ob) (F : Hp) : Hp := fun a => if a ∈ cells τ then none else F a
/-- data in which neither a list nor an object stands -/
def frT (d : Dt) : Bool := fre 0 d && fre 2 d
def frTO (d : Dt) : Bool := freO 0 d && freO 2 d
section
variable {K : PySem.W.Frag} {R : Reg} {τ : List Ob} {F H F' H' : Hp} {G : List Sl} {σ : St}
open Classical in
noncomputable def delS (l : List Addr) (F : Hp) : Hp := fun b => if b ∈ l then none else F b
/-- an object's place told, lists of them too -/
inductive Lt (τ : List Ob) : Dt → Dt → Prop where
  | ob {o : Ob} (h : o ∈ τ) : Lt τ (.adr o.p) (.at_ o.p o.dt)
  | ls {os : List Ob} (h : ∀ o ∈ os, o ∈ τ) : Lt τ (.lst (os.map fun o => .adr o.p)) (.lst (os.map fun o => .at_ o.p o.dt))
/-- slots while the objects are lent -/
inductive TgT (τ : List Ob) (tg : Nat → Addr) : Nat → List Sl → List Sl → Prop where
  | nil {n : Nat} : TgT τ tg n [] []
  | keep {n : Nat} {g : Sl} {G T : List Sl} (h : TgT τ tg (n + 1) G T) : TgT τ tg n (g :: G) (g :: T)
  | tag {n : Nat} {d : Dt} {G T : List Sl} (hd : placed d = true) (h : TgT τ tg (n + 1) G T) : TgT τ tg n (.sh d :: G) (.sh (.at_ (tg n) d) :: T)
  | ob {n : Nat} {o : Ob} {G T : List Sl} (ho : o ∈ τ) (h : TgT τ tg (n + 1) G T) : TgT τ tg n (.sh (.adr o.p) :: G) (.sh (.at_ o.p o.dt) :: T)
  | ls {n : Nat} {os : List Ob} {G T : List Sl} (hs : ∀ o ∈ os, o ∈ τ) (h : TgT τ tg (n + 1) G T) : TgT τ tg n (.sh (.lst (os.map fun o => .adr o.p)) :: G) (.sh (.at_ (tg n) (.lst (os.map fun o => .at_ o.p o.dt))) :: T)
inductive BkT (tg : Nat → Addr) : Nat → List Sl → List Sl → List Sl → Prop where
  | nil {n : Nat} : BkT tg n [] [] []
  | no {n : Nat} {a g : Sl} {A G B : List Sl} (h : BkT tg (n + 1) A G B) : BkT tg n (a :: A) (g :: G) (.no :: B)
  | free {n : Nat} {d : Dt} {g : Sl} {A G B : List Sl} (hf : frT d = true) (h : BkT tg (n + 1) A G B) : BkT tg n (.sh d :: A) (g :: G) (.sh d :: B)
  | tag {n : Nat} {d d' : Dt} {A G B : List Sl} (hd : placed d = true) (h : BkT tg (n + 1) A G B) : BkT tg n (.sh (.at_ (tg n) d') :: A) (.sh d :: G) (.sh d :: B)
  | ob {n : Nat} {p : Addr} {d' : Dt} {g : Sl} {A G B : List Sl} (h : BkT tg (n + 1) A G B) : BkT tg n (.sh (.at_ p d') :: A) (g :: G) (.sh (.adr p) :: B)
  | own {n : Nat} {d : Dt} {g : Sl} {A G B : List Sl} (hf : frTO d = true) (h : BkT tg (n + 1) A G B) : BkT tg n (.ow d :: A) (g :: G) (.ow d :: B)
theorem TgT.len {tg : Nat → Addr} {n : Nat} {G T : List Sl} (h : TgT τ tg n G T) : G.length = T.length := by
  induction h with
  | nil => rfl
  | keep _ ih => simp [ih]
  | tag _ _ ih => simp [ih]
  | ob _ _ ih => simp [ih]
  | ls _ _ ih => simp [ih]
theorem BkT.len {tg : Nat → Addr} {n : Nat} {A G B : List Sl} (h : BkT tg n A G B) : B.length = A.length := by
  induction h with
  | nil => rfl
  | no _ ih => simp [ih]
  | free _ _ ih => simp [ih]
  | tag _ _ ih => simp [ih]
  | ob _ ih => simp [ih]
  | own _ _ ih => simp [ih]
theorem TgT.get {tg : Nat → Addr} {n : Nat} {G T : List Sl} (h : TgT τ tg n G T) : ∀ {j : Nat} {t : Sl}, T[j]? = some t → G[j]? = some t ∨ (∃ d d', G[j]? = some (.sh d) ∧ t = .sh (.at_ (tg (n + j)) d') ∧ placed d = true ∧ (d' = d ∨ Lt τ d d')) ∨ ∃ o ∈ τ, G[j]? = some (.sh (.adr o.p)) ∧ t = .sh (.at_ o.p o.dt) := by
  induction h with
  | nil => intro j t hj; simp at hj
  | @keep n g G T _ ih =>
    intro j t hj
    cases j with
    | zero => cases hj; exact .inl rfl
    | succ j =>
      have := ih (j := j) (t := t) (by simpa using hj)
      rw [show n + 1 + j = n + (j + 1) by omega] at this
      simpa using this
  | @tag n d G T hd _ ih =>
    intro j t hj
    cases j with
    | zero => cases hj; exact .inr (.inl ⟨d, d, rfl, rfl, hd, .inl rfl⟩)
    | succ j =>
      have := ih (j := j) (t := t) (by simpa using hj)
      rw [show n + 1 + j = n + (j + 1) by omega] at this
      simpa using this
  | @ob n o G T ho _ ih =>
    intro j t hj
    cases j with
    | zero => cases hj; exact .inr (.inr ⟨o, ho, rfl, rfl⟩)
    | succ j =>
      have := ih (j := j) (t := t) (by simpa using hj)
      rw [show n + 1 + j = n + (j + 1) by omega] at this
      simpa using this
  | @ls n os G T hs _ ih =>
    intro j t hj
    cases j with
    | zero => cases hj; exact .inr (.inl ⟨_, _, rfl, rfl, rfl, .inr (.ls hs)⟩)
    | succ j =>
      have := ih (j := j) (t := t) (by simpa using hj)
      rw [show n + 1 + j = n + (j + 1) by omega] at this
      simpa using this
theorem BkT.get {tg : Nat → Addr} {n : Nat} {A G B : List Sl} (h : BkT tg n A G B) : ∀ {j : Nat} {b : Sl}, B[j]? = some b → (b = .no ∧ ∃ a, A[j]? = some a) ∨ (∃ d, b = .sh d ∧ A[j]? = some (.sh d) ∧ frT d = true) ∨ (∃ d d', b = .sh d ∧ A[j]? = some (.sh (.at_ (tg (n + j)) d')) ∧ G[j]? = some (.sh d) ∧ placed d = true) ∨
    (∃ p d', b = .sh (.adr p) ∧ A[j]? = some (.sh (.at_ p d'))) ∨ ∃ d, b = .ow d ∧ A[j]? = some (.ow d) ∧ frTO d = true := by
  induction h with
  | nil => intro j t hj; simp at hj
  | @no n a g A G B _ ih =>
    intro j t hj
    cases j with
    | zero => cases hj; exact .inl ⟨rfl, a, rfl⟩
    | succ j =>
      have := ih (j := j) (b := t) (by simpa using hj)
      rw [show n + 1 + j = n + (j + 1) by omega] at this
      simpa using this
  | @free n d g A G B hf _ ih =>
    intro j t hj
    cases j with
    | zero => cases hj; exact .inr (.inl ⟨d, rfl, rfl, hf⟩)
    | succ j =>
      have := ih (j := j) (b := t) (by simpa using hj)
      rw [show n + 1 + j = n + (j + 1) by omega] at this
      simpa using this
  | @tag n d d' A G B hd _ ih =>
    intro j t hj
    cases j with
    | zero => cases hj; exact .inr (.inr (.inl ⟨d, d', rfl, rfl, rfl, hd⟩))
    | succ j =>
      have := ih (j := j) (b := t) (by simpa using hj)
      rw [show n + 1 + j = n + (j + 1) by omega] at this
      simpa using this
  | @ob n p d' g A G B _ ih =>
    intro j t hj
    cases j with
    | zero => cases hj; exact .inr (.inr (.inr (.inl ⟨p, d', rfl, rfl⟩)))
    | succ j =>
      have := ih (j := j) (b := t) (by simpa using hj)
      rw [show n + 1 + j = n + (j + 1) by omega] at this
      simpa using this
  | @own n d g A G B hf _ ih =>
    intro j t hj
    cases j with
    | zero => cases hj; exact .inr (.inr (.inr (.inr ⟨d, rfl, rfl, hf⟩)))
    | succ j =>
      have := ih (j := j) (b := t) (by simpa using hj)
      rw [show n + 1 + j = n + (j + 1) by omega] at this
      simpa using this
/-- the tags of a state -/
def tgs (σ : St) : Nat → Addr := fun j => adrOf (σ[j]?)
end
end VS
set_option Elab.async false
set_option linter.all false
set_option maxRecDepth 100000
/-! objects lent; expressions that change objects -/
namespace VS
open PySem PySem.Spec L2
section
variable {X : Cx} {R : Reg} {τ τ' τ0 : List Ob} {G : List Sl} {pos : Pos} {k : KtT} {F0 H0 F H F' H' : Hp} {σ σ' : St}
/-! ### expressions that change objects -/
def CtT (K : PySem.W.Frag) (R : Reg) (τ : List Ob) (F H : Hp) (P : List Ob → Dt → Prop) (Q : VK) : Prop := ∀ v F' H' d τ', TwT K R τ' F' H' → ExT R τ τ' F H F' H' → Rp K F' d v → P τ' d → Q v H'
def ET (X : Cx) (R : Reg) (τ : List Ob) (G : List Sl) (e : Expr) (P : List Ob → Dt → Prop) : Prop := ∀ σ F H Q, TyT X.K R τ G σ F H → CtT X.K R τ F H P Q → tOf X e σ H Q
end
/-! ### defs that change objects -/
abbrev PhT := List Ob → List Dt → (List Ob → Dt → Prop) → Prop
def spT (K : PySem.W.Frag) (m : Nat) (φ : PhT) : Sp := fun vs H Q _ => vs.length = m ∧ ∃ τ F ds q, TwT K .nil τ F H ∧ RpL K F ds vs ∧ φ τ ds q ∧ ∀ v F' H' d τ', TwT K .nil τ' F' H' → ExT .nil τ τ' F H F' H' → Rp K F' d v → q τ' d → Q v H'
section
variable {K : PySem.W.Frag} {R : Reg} {τ τ' ρ : List Ob} {F H F' H' : Hp}
end
section
variable {X : Cx} {R : Reg} {τ τ' τ0 ρ : List Ob} {G : List Sl} {pos : Pos} {k : KtT} {F0 H0 F H F' H' : Hp} {σ σ' : St}
end
end VS
set_option Elab.async false
set_option linter.all false
set_option maxRecDepth 100000
set_option maxHeartbeats 1000000
/-! the bodies of methods that change their object; classes whose objects are so; loops -/
namespace VS
open PySem PySem.Spec L2
section
variable {K : PySem.W.Frag} {R : Reg} {τ τ' ρ : List Ob} {F H F1 H1 H2 : Hp} {o o' : Ob}
end
/-- a field set -/
def putN (f : Str) : List Str → List Str
  | n :: ns => if n == f then n :: ns else n :: putN f ns
  | [] => [f]
def putD (f : Str) (x : Fd) : List Str → List Fd → List Fd
  | n :: ns, y :: ys => if n == f then x :: ys else y :: putD f x ns ys
  | _, _ => [x]
section
variable {K : PySem.W.Frag} {F H : Hp}
def FdV (K : PySem.W.Frag) (F H : Hp) : Fd → V → Prop
  | .dt d, v => Rp K F d v
  | .li l xs, v => v = .ref l ∧ ∃ ws, H l = some (.lst ws) ∧ RpL K F xs ws
theorem FdsOk.cons {x : Fd} {fs : List Fd} {v : V} {vs : List V} (h : FdV K F H x v) (t : FdsOk K F H fs vs) : FdsOk K F H (x :: fs) (v :: vs) := by
  cases x with
  | dt d => exact ⟨v, vs, rfl, h, t⟩
  | li l xs => obtain ⟨rfl, ws, h1, h2⟩ := h; exact ⟨vs, ws, rfl, h1, h2, t⟩
def Ob.put (o : Ob) (f : Str) (x : Fd) : Ob := { o with ns := putN f o.ns, fs := putD f x o.ns o.fs }
/-- the place of a field -/
def idxF (f : Str) : List Str → Option Nat
  | [] => none
  | n :: ns => if n == f then some 0 else (idxF f ns).map (· + 1)
def Ob.set (o : Ob) (j : Nat) (l : Addr) (xs : List Dt) : Ob := { o with fs := o.fs.set j (.li l xs) }
end
section
variable {X : Cx} {R : Reg} {τ τ' τ0 ρ : List Ob} {G : List Sl} {pos : Pos} {k : KtT} {F0 H0 F H F' H' : Hp} {σ σ' : St} {o : Ob}
end
end VS
set_option Elab.async false
set_option linter.all false
set_option maxRecDepth 100000
set_option maxHeartbeats 1000000
/-! defs and classes over objects; loops; try -/
namespace VS
open PySem PySem.Spec L2
section
variable {P : Program} {w : World} {K : PySem.W.Frag} {mg : Str → Option Value} {base : Heap}
/-- a class whose __init__ is such a def -/
def phC (C : Addr) (φ : PhT) : PhT := fun τ ds q => τ = [] ∧ ∀ x, φ [⟨x, C, [], []⟩] (.adr x :: ds) fun τ' d => d = .non ∧ q τ' (.adr x)
structure FnCT (P : Program) (w : World) (K : PySem.W.Frag) (mg : Str → Option Value) (base : Heap) (k : Nat) (x : Str) (n : Nat) (φ : PhT) : Prop where
  ex : ∃ f : Addr, mg x = some (.ref f) ∧ PySem.W.keepIn K (.ref f) = true ∧ FnR P w K mg base (L2N.CX P w) k f (spT K n φ)
theorem FnCT.mono {P : Program} {w : World} {K : PySem.W.Frag} {mg : Str → Option Value} {base : Heap} {j k : Nat} {x : Str} {n : Nat} {φ : PhT} (F : FnCT P w K mg base j x n φ) (h : j ≤ k) : FnCT P w K mg base k x n φ := by
  obtain ⟨f, a, b, c⟩ := F.ex
  exact ⟨f, a, b, c.mono h⟩
end
section
variable {X : Cx} {R : Reg} {τ τ' τ0 ρ : List Ob} {G : List Sl} {pos : Pos} {k : KtT} {F0 H0 F H F' H' : Hp} {σ σ' : St}
theorem bsH_none (x : ExT R τ0 τ F0 H0 F H) (w : Wf R F H) {a : Addr} (h : bsH R τ H0 H a = none) : H0 a = none := Classical.byContradiction fun n => by
  rw [bsH_eq (.inl n)] at h
  exact x.ne w n h
theorem ExT.bs (x : ExT R τ0 τ F0 H0 F H) (t : TwT X.K R τ F H) (y : ExT R τ τ' F (bsH R τ H0 H) F' H') (w : Wf R F' H') : ExT R τ0 τ' F0 H0 F' H' := by
  have nt : ∀ {a}, NT (H0 a) → NT (bsH R τ H0 H a) := fun {a} h => by rw [bsH_eq (.inl h.ne)]; exact x.nt t.wf h
  refine ⟨x.ff.trans y.ff, fun a u m c h => ?_, fun a h n => y.fr a (nt h) (x.fr a h n), fun a c => y.nt w (by rw [bsH_eq (.inl (x.c0 a c))]; exact x.oc a c), fun a c => ?_, x.c0⟩
  · refine y.hh a u m (fun z => ?_) (by rw [bsH_eq (.inl (by rw [h]; exact fun z => nomatch z))]; exact x.hh a u m c h)
    rcases x.mm a z with z | z
    · exact c z
    · rw [z] at h; cases h
  · rcases y.mm a c with z | z
    · exact x.mm a z
    · exact .inr (bsH_none x t.wf z)
end
end VS
set_option Elab.async false
set_option linter.all false
set_option maxRecDepth 100000
set_option maxHeartbeats 2000000
/-! more statements with objects -/
namespace VS
open PySem PySem.Spec L2
section
variable {X : Cx} {R : Reg} {G : List Sl} {pos : Pos} {k : Kt} {xq : List Sl → XD} {W : WX}
end
section
variable {X : Cx} {R : Reg} {τ τ' τ0 ρ : List Ob} {G : List Sl} {pos : Pos} {k : KtT} {F0 H0 F H F' H' : Hp} {σ σ' : St}
theorem ST.imp {ss : List Stmt} {k' : KtT} (h : ST X R τ ss G k) (h1 : ∀ τ G, k.nx τ G → k'.nx τ G) (h2 : ∀ τ d, k.rt τ d → k'.rt τ d) (h3 : ∀ τ G, k.bk τ G → k'.bk τ G) (h4 : ∀ τ G, k.ct τ G → k'.ct τ G) : ST X R τ ss G k' := fun τ0 F0 H0 σ F H D t x fr c =>
  h τ0 F0 H0 σ F H D t x fr ⟨fun τ G σ F H z => c.nx τ G σ F H (h1 τ G z), fun τ d v F H z => c.rt τ d v F H (h2 τ d z), fun τ G σ F H z => c.bk τ G σ F H (h3 τ G z), fun τ G σ F H z => c.ct τ G σ F H (h4 τ G z)⟩
end
end VS
set_option Elab.async false
set_option linter.all false
set_option maxRecDepth 100000
/-! trials: letters, ends, promises -/
namespace VS
open PySem PySem.Spec L2
section
variable {X : Cx} {R : Reg} {G : List Sl} {pos : Pos}
end
/-! letters -/
def lc (b : Bool) : Nat := if b then 87 else 76
def ltS (ws : List Bool) : Str := SX.S (ws.map lc)
def wn (ws : List Bool) : Nat := ws.count true
def cn2 (ws : List Bool) : Int × Int := ((wn ws : Nat), ((ws.length : Nat) : Int) - (wn ws : Nat))
/-! ends -/
def eAt (T : Tb) (ws : List Bool) : Bool := T.isEnd (cn2 ws)
/-- the tries up to the first end -/
def feN (T : Tb) (ws : List Bool) : Option Nat := ((List.range ws.length).find? fun i => eAt T (ws.take (i + 1))).map (· + 1)
def optN : Option Nat → Dt
  | some n => .int (n : Nat)
  | none => .non
def optS : Option Str → Dt
  | some x => .str x
  | none => .non
/-- an end before the last try -/
def ovN (T : Tb) (ws : List Bool) : Option Nat := match feN T ws with
  | some m => if m < ws.length then some m else none
  | none => none
def sdO (T : Tb) (ws : List Bool) : Option Str := if (feN T ws).isSome then lk T.ent (cn2 ws) else none
/-! objects -/
abbrev ltD (ls : List (List Bool)) : List Dt := (ls.map ltS).map Dt.str
abbrev trN : List Str := ["chart", "steps", "undone", "letters", "said"]
abbrev trG (CT C p l1 l2 : Addr) (T : Tb) (st un : List (List Bool)) (a b : Dt) : Ob := ⟨p, C, trN, [.dt (tabD CT T), .li l1 (ltD st), .li l2 (ltD un), .dt a, .dt b]⟩
abbrev trO (CT C p l1 l2 : Addr) (T : Tb) (st un : List (List Bool)) : Ob := trG CT C p l1 l2 T st un (.str (ltS st.flatten)) (optS (sdO T st.flatten))
/-- a trial as data -/
abbrev trD (CT C : Addr) (T : Tb) (st un : List (List Bool)) : Dt := .obj C trN [tabD CT T, .lst (ltD st), .lst (ltD un), .str (ltS st.flatten), optS (sdO T st.flatten)]
/-! promises -/
def badI (cs : List Nat) : Option Nat := cs.findIdx? fun c => !(decide (c = 87) || decide (c = 76))
def ph_check_letters (CI : Addr) : Ph := fun ds q x => ∃ cs : List Nat, ds = [.str (SX.S cs)] ∧ cs.length ≤ 100000 ∧ (badI cs = none → q .non) ∧ ∀ i, badI cs = some i → x CI ["index"] [.int ((i : Nat) : Int)]
def ph_first_end (C : Addr) : Ph := fun ds q _ => ∃ (T : Tb) (ws : List Bool), ds = [tabD C T, .str (ltS ws)] ∧ ws.length ≤ 1000 ∧ q (optN (feN T ws))
def ph_check_end (C CO : Addr) : Ph := fun ds q x => ∃ (T : Tb) (ws : List Bool), ds = [tabD C T, .str (ltS ws)] ∧ ws.length ≤ 1000 ∧ (ovN T ws = none → q .non) ∧ ∀ m, ovN T ws = some m → x CO ["word"] [optS (lk T.ent (cn2 (ws.take m)))]
/-! the law's -/
def ph__law_letters : Ph := fun ds q _ => ∃ m : Int, ds = [.int m] ∧ (0 ≤ m ∧ m ≤ 100) ∧ ∀ ws : List Bool, (ws.length : Int) ≤ m → q (.str (ltS ws))
def feD (T : Tb) (ws : List Bool) : Dt := match feN T ws with
  | some m => .tup [.int ((m : Nat) : Int), optS (lk T.ent (cn2 (ws.take m)))]
  | none => .tup [.int 0, .non]
def ph__law_first_end : Ph := fun ds q _ => ∃ (lim : Nat) (looks : List Int) (rl : Al Str) (ws : List Bool), ds = [ptD lim looks rl, .str (ltS ws)] ∧ (Vr lim looks rl ∧ ws.length ≤ 1000) ∧ q (feD (mkT lim looks rl) ws)
/-- what is recorded -/
structure StT (T : Tb) (st : List (List Bool)) : Prop where
  n : st.flatten.length ≤ 500
  l : st.length ≤ 500
  ov : ovN T st.flatten = none
def ph__law_same (CT C : Addr) : Ph := fun ds q _ => ∃ (lim : Nat) (looks : List Int) (rl : Al Str) (st un : List (List Bool)), ds = [trD CT C (mkT lim looks rl) st un, ptD lim looks rl, .lst (ltD st)] ∧ (Vr lim looks rl ∧ StT (mkT lim looks rl) st) ∧ q (.bl true)
/-- what is due -/
def dueD (T : Tb) (st : List (List Bool)) (cs : List Nat) (d : Dt) : Prop :=
  (∃ i : Nat, badI cs = some i ∧ d = .tup [.str "letter", .int i]) ∨ (∃ ws m, cs = ws.map lc ∧ ws ≠ [] ∧ ovN T (st.flatten ++ ws) = some m ∧ d = .tup [.str "over", optS (lk T.ent (cn2 ((st.flatten ++ ws).take m)))]) ∨ ∃ ws, cs = ws.map lc ∧ (ws = [] ∨ ovN T (st.flatten ++ ws) = none) ∧ d = .non
def ph__law_faultT : Ph := fun ds q _ => ∃ (lim : Nat) (looks : List Int) (rl : Al Str) (st : List (List Bool)) (cs : List Nat), ds = [ptD lim looks rl, .lst (ltD st), .str (SX.S cs)] ∧ (Vr lim looks rl ∧ st.flatten.length ≤ 500 ∧ cs.length ≤ 100) ∧ ∀ d, dueD (mkT lim looks rl) st cs d → q d
/-- refused, or nothing -/
def NoT (T : Tb) (st : List (List Bool)) (cs : List Nat) : Prop := (∃ i, badI cs = some i) ∨ cs = [] ∨ ∃ ws m, cs = ws.map lc ∧ ws ≠ [] ∧ ovN T (st.flatten ++ ws) = some m
def ph__law_recorded (CT C : Addr) : Ph := fun ds q _ => ∃ (lim : Nat) (looks : List Int) (rl : Al Str) (st un : List (List Bool)) (cs : List Nat), ds = [trD CT C (mkT lim looks rl) st un, ptD lim looks rl, .lst (ltD st), .str (SX.S cs)] ∧ (Vr lim looks rl ∧ StT (mkT lim looks rl) st ∧ cs.length ≤ 100 ∧ NoT (mkT lim looks rl) st cs) ∧ q (.lst (ltD st))
def ph_t__law_recorded (CT C : Addr) : PhT := fun τ ds q => ∃ (p l1 l2 : Addr) (lim : Nat) (looks : List Int) (rl : Al Str) (st un : List (List Bool)) (ws : List Bool), τ = [trO CT C p l1 l2 (mkT lim looks rl) st un] ∧ ds = [.adr p, ptD lim looks rl, .lst (ltD st), .str (ltS ws)] ∧ (Vr lim looks rl ∧ StT (mkT lim looks rl) st ∧ ws.length ≤ 100 ∧ ws ≠ [] ∧ ovN (mkT lim looks rl) (st.flatten ++ ws) = none) ∧ ∀ l2', q [trO CT C p l1 l2' (mkT lim looks rl) (st ++ [ws]) []] (.lst (ltD (st ++ [ws])))
/-- __init__ -/
def ph_Trial___init__ (CT C : Addr) : PhT := fun τ ds q => ∃ (p : Addr) (T : Tb), τ = [⟨p, C, [], []⟩] ∧ ds = [.adr p, tabD CT T] ∧ ∀ l1 l2, q [trO CT C p l1 l2 T [] []] .non
def ph_Trial_settle (CT C : Addr) : PhT := fun τ ds q => ∃ (p l1 l2 : Addr) (T : Tb) (st un : List (List Bool)) (a b : Dt), τ = [trG CT C p l1 l2 T st un a b] ∧ ds = [.adr p] ∧ st.flatten.length ≤ 1000 ∧ st.length ≤ 1000 ∧ q [trO CT C p l1 l2 T st un] .non
/-- record: what changes the trial -/
structure RecT (T : Tb) (st : List (List Bool)) (ws : List Bool) : Prop where
  n : (st.flatten ++ ws).length ≤ 1000
  l : st.length ≤ 900
  ne : ws ≠ []
  ov : ovN T (st.flatten ++ ws) = none
def ph_t_Trial_record (CT C : Addr) : PhT := fun τ ds q => ∃ (p l1 l2 : Addr) (T : Tb) (st un : List (List Bool)) (ws : List Bool), τ = [trO CT C p l1 l2 T st un] ∧ ds = [.adr p, .str (ltS ws)] ∧ RecT T st ws ∧ ∀ l2', q [trO CT C p l1 l2' T (st ++ [ws]) []] (optS (sdO T (st.flatten ++ ws)))
/-- record: what is refused, or nothing -/
def ph_Trial_record (CT C CI CO : Addr) : Ph := fun ds q x => ∃ (T : Tb) (st un : List (List Bool)) (cs : List Nat), ds = [trD CT C T st un, .str (SX.S cs)] ∧ cs.length ≤ 100 ∧ st.flatten.length ≤ 900 ∧ (cs = [] → q (optS (sdO T st.flatten))) ∧ (∀ i, badI cs = some i → x CI ["index"] [.int ((i : Nat) : Int)]) ∧ (∀ ws, cs = ws.map lc → ws ≠ [] → ∃ m, ovN T (st.flatten ++ ws) = some m ∧ x CO ["word"] [optS (lk T.ent (cn2 ((st.flatten ++ ws).take m)))])
def ph_trD (CT C : Addr) (f : Tb → List (List Bool) → List (List Bool) → Dt) : Ph := fun ds q _ => ∃ (T : Tb) (st un : List (List Bool)), ds = [trD CT C T st un] ∧ st.flatten.length ≤ 1000 ∧ st.length ≤ 1000 ∧ q (f T st un)
abbrev ph_Trial_wins (CT C : Addr) : Ph := ph_trD CT C fun _ st _ => .int (Txt.count (ltS st.flatten) (Str.ofString "W"))
abbrev ph_Trial_losses (CT C : Addr) : Ph := ph_trD CT C fun _ st _ => .int (Txt.count (ltS st.flatten) (Str.ofString "L"))
abbrev ph_Trial_tries (CT C : Addr) : Ph := ph_trD CT C fun _ st _ => .int ((st.flatten.length : Nat) : Int)
abbrev ph_Trial___len__ (CT C : Addr) : Ph := ph_trD CT C fun _ st _ => .int ((st.flatten.length : Nat) : Int)
abbrev ph_Trial_verdict (CT C : Addr) : Ph := ph_trD CT C fun T st _ => optS (sdO T st.flatten)
abbrev ph_Trial_history (CT C : Addr) : Ph := ph_trD CT C fun _ st _ => .lst (ltD st)
structure TrialC (K : PySem.W.Frag) (C : Addr) : Prop where
  cl : Cls K C
  na_chart : NoAttr K C "chart"
  na_steps : NoAttr K C "steps"
  na_undone : NoAttr K C "undone"
  na_letters : NoAttr K C "letters"
  na_said : NoAttr K C "said"
end VS
set_option Elab.async false
set_option linter.all false
set_option maxRecDepth 100000
/-! try .. except x: without a name -/
namespace VS
open PySem PySem.Spec L2
section
variable {X : Cx} {R : Reg} {G : List Sl} {pos : Pos} {k : Kt} {W : WX}
end
end VS
set_option Elab.async false
set_option linter.all false
set_option maxRecDepth 100000
set_option maxHeartbeats 2000000
/-! objects: several except clauses, what is told by address given back, defs that take the box and objects, lists of objects -/
namespace VS
open PySem PySem.Spec L2
section
variable {X : Cx} {R : Reg} {G : List Sl} {pos : Pos} {k : Kt} {W : WX}
end
section
variable {X : Cx} {R : Reg} {τ τ' τ0 ρ : List Ob} {G : List Sl} {pos : Pos} {k : KtT} {F0 H0 F H F' H' : Hp} {σ σ' : St}
end
section
variable {K : PySem.W.Frag} {R : Reg} {τ τ' ρ : List Ob} {F H F' H' : Hp}
end
/-- a def's promise whose first argument is the box, and that changes objects -/
def spBT (K : PySem.W.Frag) (m : Nat) (φ : PhT) : Sp := fun vs H Q _ => vs.length = m ∧ ∃ b c n τ F ds q, TwT K (boxR b c n) τ F H ∧ RpL K F (.adr b :: ds) vs ∧ φ τ ds q ∧ ∀ v F' H' d τ', TwT K (boxR b c n) τ' F' H' → ExT (boxR b c n) τ τ' F H F' H' → Rp K F' d v → q τ' d → Q v H'
section
variable {X : Cx} {τ ρ : List Ob} {G : List Sl} {pos : Pos} {b c : Addr} {n : Nat}
end
section
variable {P : Program} {w : World} {K : PySem.W.Frag} {mg : Str → Option Value} {base : Heap}
end
section
variable {X : Cx} {CX : CXT} {k : Nat} {f C : Addr} {fd : FuncData} {ps : List Str} {sp : Sp} {E : St → XK} {m : Str} {pos apos : Pos} {o : Expr} {ta : TE} {ds : List (Value)} {dvs : List V}
end
section
variable {X : Cx} {R : Reg} {G : List Sl} {pos : Pos} {k : Kt} {W : WX}
end
end VS
set_option Elab.async false
set_option linter.all false
set_option maxRecDepth 100000
/-! a def with two promises: over data, over objects -/
namespace VS
open PySem PySem.Spec L2
/-- the data of arguments while the objects are lent -/
inductive LntL (τ : List Ob) : List Dt → List Dt → Prop where
  | nil : LntL τ [] []
  | keep {d : Dt} {ds es : List Dt} (h : LntL τ ds es) : LntL τ (d :: ds) (d :: es)
  | ob {o : Ob} {ds es : List Dt} (ho : o ∈ τ) (h : LntL τ ds es) : LntL τ (.adr o.p :: ds) (o.dt :: es)
section
variable {K : PySem.W.Frag} {R : Reg} {τ ρ : List Ob} {F H : Hp}
end

section
variable {X : Cx} {R : Reg} {τ τ' ρ : List Ob} {G : List Sl} {pos : Pos}
/-! tests that change objects -/
def CtTB (K : PySem.W.Frag) (R : Reg) (τ : List Ob) (F H : Hp) (P : List Ob → Bool → Prop) (Q : Bool → Hp → Prop) : Prop := ∀ b F' H' τ', TwT K R τ' F' H' → ExT R τ τ' F H F' H' → P τ' b → Q b H'
def TT_ (X : Cx) (R : Reg) (τ : List Ob) (G : List Sl) (e : Expr) (P : List Ob → Bool → Prop) : Prop := ∀ σ F H Q, TyT X.K R τ G σ F H → CtTB X.K R τ F H P Q → ttOf X e σ H Q
end
end VS
set_option Elab.async false
set_option linter.all false
set_option maxRecDepth 100000
/-! new things made while the objects are lent; a pair of such -/
namespace VS
open PySem PySem.Spec L2 PyProof.Rows
section
variable {X : Cx} {R : Reg} {τ τ' ρ : List Ob} {G : List Sl} {pos : Pos}
end
section
variable {X : Cx} {R : Reg}
end
end VS
set_option Elab.async false
set_option linter.all false
set_option maxRecDepth 100000
/-! defs that are called while an exception is handled (within an except suite) -/
namespace VS
open PySem PySem.Spec L2 L2H
theorem passHt {X : Cx} (σ : L2.St) : PassesAt (L2N.CX X.prog X.w) X σ E0 := fun pins H s e s' I c => passLn pins σ H s e s' I c
/-- room, and the context bears the handled exception -/
structure RoomHt (k : Nat) (X : Cx) : Prop where
  rm : RoomH k X.A
  hot : HotC X
theorem RoomHt.mono {j k : Nat} {X : Cx} (r : RoomHt k X) (h : j ≤ k) : RoomHt j X := ⟨r.rm.mono h, r.hot⟩
theorem RoomHt.u1 {k : Nat} {X : Cx} (r : RoomHt k X) : X.A.units + 1 < cLine := by have := r.rm.un; omega
theorem RoomHt.u65 {k : Nat} {X : Cx} (r : RoomHt k X) : X.A.units + 65 < cLine := by have := r.rm.un; omega
structure FnHt (P : Program) (w : World) (K : PySem.W.Frag) (mg : Str → Option Value) (base : Heap) (k : Nat) (x : Str) (ps : List Str) (sp : Sp) : Prop where
  ex : ∃ (f : Addr) (fd : FuncData), mg x = some (.ref f) ∧ PySem.W.keepIn K (.ref f) = true ∧ Binds K fd ps [] ∧ FnH P w K mg base (L2N.CX P w) k f fd ps sp
structure FnMHt (P : Program) (w : World) (K : PySem.W.Frag) (mg : Str → Option Value) (base : Heap) (k : Nat) (C : Addr) (m : Str) (ps : List Str) (sp : Sp) : Prop where
  ex : ∃ f fd, Meth K C m f ∧ Binds K fd ps [] ∧ FnH P w K mg base (L2N.CX P w) k f fd ps sp
structure FnPHt (P : Program) (w : World) (K : PySem.W.Frag) (mg : Str → Option Value) (base : Heap) (k : Nat) (C : Addr) (m : Str) (φ : Ph) : Prop where
  ex : ∃ j p g fd ps, j + 1 ≤ k ∧ PropOf K C m p g ∧ Binds K fd ps [] ∧ FnH P w K mg base (L2N.CX P w) j g fd ps (spD K 1 φ)
section
variable {P : Program} {w : World} {K : PySem.W.Frag} {mg : Str → Option Value} {base : Heap}
theorem fn_okHt {x qual : Str} {st : Stmt} {f : Addr} {fd : FuncData} {dvs : List V} {kws : List (Str × V)} {N ps : List Str} {k n : Nat} {φ : Ph} (F : FD K x qual st dvs kws f fd) (Sc : FnScope N ps (defScope st)) (hn : n = ps.length)
    (h : ∀ (X : Cx) (cdv : Value) (A : Around) (outer : List Env) (s : Shared) (H : Hp) (E : XK) (p : Addr × Obj) (ds : List Dt) (q : Dt → Prop) (xd : XD), X = cxH (L2N.CX P w) P w K mg base N qual (defScope st) f cdv A outer s H E p → RoomHt k X → φ ds q xd → ds.length = n →
      (∀ F, Wf .nil F H → XOk K .nil F H xd E → S X .nil (defBody st) (st0 N ds) { nx := fun _ => q .non, rt := q })) : FnH P w K mg base (L2N.CX P w) (k + 1) f fd ps (spD K n φ) := by
  obtain ⟨oc, od, dV, kV, doc, pm, an, cdv, ct, osl, rfl, lk, hcd, _, _⟩ := F.ex
  refine fn_ofH lk hcd Sc (fun vs H Q E hh => by rw [hh.1, hn]) fun A outer s H vs Q E p hot hr hh => ?_
  obtain ⟨hl, F0, ds, q, xd, sf, r, hφ, hq, hx⟩ := hh
  have hS := h _ cdv A outer s H E p ds q xd rfl ⟨hr, ⟨p, ⟨hot.1, hot.2⟩, List.mem_cons_self⟩⟩ hφ (by rw [r.length, hl]) F0 (wf_nil sf) hx
  refine ⟨_, pss_w, hS F0 H _ F0 H _ ⟨wf_nil sf, ?_, by unfold st0; rw [owns0]; exact .nil⟩ ⟨.refl (wf_nil sf), (by unfold st0; rw [owns0]; intro o ho; cases ho), trivial⟩ ⟨fun G σ F1 H1 z _ b => hq .non F1 H1 .non b.ext (rp_non.mpr rfl) z, fun d v F1 H1 z e rd => hq v F1 H1 d e rd z, fun _ _ _ _ z => z.elim, fun _ _ _ _ z => z.elim, fun _ _ _ _ z => z.elim⟩⟩
  unfold st0 L2.start
  rw [r.length]
  exact sls0 _ r
end
section
variable {X : Cx} {R : Reg} {G : List Sl} {pos : Pos}
theorem e_callHt {x : Str} {ps : List Str} {φ : Ph} {n j : Nat} {e : Expr} {es : List Expr} {p : Pos} {P : Dt → Prop} (F : FnHt X.prog X.w X.K X.mg X.base j x ps (spD X.K n φ)) (hr : RoomHt j X) (hg : Gl X x)
    (h : EA X R G (e :: es) fun ds => ds.length = n ∧ φ ds P fun _ _ _ => False)
    (hdb : (x == ("__debug__" : Str)) = false := by decide) (he : starEach (e :: es) X.env = (false, eval e X.env) :: starEach es X.env := by rfl) (hpl : (backTo pos (starEach es X.env)).any (·.1) = false := by rfl) : E X R G (.Call (.Name x p) (e :: es) [] pos) P := fun σ F' H Q ty c => by
  obtain ⟨f, fd, a1, a2, a3, a5⟩ := F.ex
  refine tOf.of (pe_callH a5 hr.rm hr.hot hg a1 a2 a3 (fun σ => passHt σ) pa_w hdb he hpl) (h σ F' H _ ty fun vs F1 H1 ds ex r ⟨hl, hφ⟩ => ?_)
  exact ⟨by rw [← hl]; exact r.length.symm, F1, _, P, fun _ _ _ => False, ex.wf.fh, r, hφ, fun v F2 H2 d ex2 r2 p => c v F2 H2 d (ex.trans (Ext.of_nil ex.wf ex2)) r2 p, ⟨fun _ _ _ _ _ _ _ z => z.elim, fun _ _ _ z => z.elim⟩⟩
/-- len(p) -/
structure FnIHt (P : Program) (w : World) (K : PySem.W.Frag) (mg : Str → Option Value) (base : Heap) (k : Nat) (C : Addr) (m : Str) (ps : List Str) (sp : Sp) : Prop where
  ex : ∃ j, j + 1 ≤ k ∧ FnMHt P w K mg base j C m ps sp
end
end VS
set_option Elab.async false
set_option linter.all false
set_option maxRecDepth 100000
set_option maxHeartbeats 2000000
/-! unpacking a tuple while an exception is handled; defs that give back new lists there -/
namespace VS
open PySem PySem.Spec PyProof.Rows L2 L2H HotX
section
variable {prog : Program} {w : World} {A : Around} {E : Value → Shared → Prop} {s : Shared}
theorem next_tuple_end_hot {it t x1 : Addr} {i : Nat} {items : Array Value} {Q : Option Value → Shared → Prop} (hot : HotAt A x1 s.heap) (hx1 : x1 ≠ it)
    (hit : IsTupIter s.heap it t i) (ht : IsTup s.heap t items) (hx : items[i]? = none)
    (hQ : ∀ h', Heap.ExtBut it s.heap h' → Q none { s with heap := h' }) : wpAny (model prog w) A (pyNext (.ref it)) Q E s := by
  obtain ⟨o, ho, hc, hd⟩ := id hit
  obtain ⟨ol, hol, _, nl, hdl⟩ := ht
  obtain ⟨hh, o1, vs1, h1, d1, c1⟩ := hot
  unfold pyNext
  refine wpAny_bind (wpAny_attempt (wpAny_callSpecial?_slot (name := Str.ofString "__next__") hit.typeIs slot_tupleiter_next
    (wpAny_call_entry slot_tupleiter_next hit.typeIs entry_tupleiter_next ?_ (args_tupleiter_next _))))
  show wpAny _ _ (field (.ref it) 0 >>= _) _ _ s
  refine wpAny_bind (wpAny_field ho hd (x := .ref t) rfl ?_)
  show wpAny _ _ (if (Value.ref t == Value.none) = true then _ else _) _ _ s
  rw [if_neg (show ¬ ((Value.ref t == Value.none) = true) from Bool.false_ne_true)]
  show wpAny _ _ (field (.ref it) 1 >>= _) _ _ s
  refine wpAny_bind (wpAny_field ho hd (x := .int i 0) rfl ?_)
  show wpAny _ _ (seqItems? (.ref t) >>= _) _ _ s
  refine wpAny_bind (wpAny_seqItems hol hdl ?_)
  simp only [Int.toNat_natCast, hx]
  refine wpAny_bind (wpAny_rule (wpAny_bind (wpAny_setField ho hd (by simp) ?_)))
  show wpAny _ _ (newExc (.type "StopIteration") [] >>= _) _ _ _
  refine wpAny_bind ?_
  simp only [newExc, newTuple]
  refine wpAny_bind (wpAny_newObj_type ?_ (by size_fits))
  refine wpAny_bind (m := firstArgMember _ _) (wpAny_of_eq (a := Value.none) (by first | rfl | (simp only [firstArgMember]; rfl)) ?_)
  refine wpAny_newObj_type ?_ (by size_fits)
  have h1' : (s.heap.update it (Obj.mapFields (·.setIfInBounds 0 Value.none))).get? x1 = some o1 := by rw [Heap.get?_update_other _ _ (Ne.symm hx1)]; exact h1
  refine raiseNew_hot ⟨hh, o1, vs1, Heap.get?_push_of_some _ (Heap.get?_push_of_some _ h1'), d1, c1⟩ (Nat.ne_of_lt (Heap.lt_size (Heap.get?_push_of_some _ h1'))) (Heap.get?_push_size _ rfl) rfl (by first | (simp; done) | (simp; omega) | (simp only [Array.size_append]; simp; omega)) ?_
  refine wpAny_bind (wpAny_isInstance (T := "StopIteration") (b := true) ⟨_, Heap.get?_update_self _ (Heap.get?_push_size _ rfl) rfl, rfl⟩ isSubtype_stop ?_)
  refine wpAny_pure (hQ _ fun b o hb e => ?_)
  have e2 := (Heap.SameBut.update (h := s.heap) (a := it) (f := Obj.mapFields (·.setIfInBounds 0 Value.none))).extBut b o hb e
  rw [Heap.get?_update_other _ _ (Nat.ne_of_gt (Heap.lt_size (Heap.get?_push_of_some _ e2)))]
  exact Heap.get?_push_of_some _ (Heap.get?_push_of_some _ e2)
theorem HotAt.keeps {A : Around} {x1 : Addr} {h h' : Heap} (c : HotAt A x1 h) (k : ∀ o, h.get? x1 = some o → h'.get? x1 = some o) : HotAt A x1 h' := by
  obtain ⟨hh, o1, vs1, h1, d1, c1⟩ := c
  exact ⟨hh, o1, vs1, k _ h1, d1, c1⟩
theorem HotAt.lt {A : Around} {x1 : Addr} {h : Heap} (c : HotAt A x1 h) : x1 < h.objs.size := by
  obtain ⟨hh, o1, vs1, h1, d1, c1⟩ := c
  exact Heap.lt_size h1
theorem unpackItems_hot {t x1 : Addr} {items : Array Value} {Q : List Value → Shared → Prop} (hot : HotAt A x1 s.heap) (ht : IsTup s.heap t items)
    (hQ : ∀ h', Heap.ExtBut s.heap.objs.size s.heap h' → Q items.toList { s with heap := h' }) : wpAny (model prog w) A (unpackItems (.ref t) items.size none) Q E s := by
  have hlt : t ≠ s.heap.objs.size := by obtain ⟨o, ho, _⟩ := ht; exact Nat.ne_of_lt (Heap.lt_size ho)
  have hx1 : x1 ≠ s.heap.objs.size := Nat.ne_of_lt (HotAt.lt hot)
  unfold unpackItems
  refine wpAny_bind ?_
  · unfold notIterableAtAll
    refine wpAny_bind (wpAny_specialOf ht.typeIs slot_tuple_iter.lookup ?_)
    refine wpAny_pure ?_
    simp only [Bool.false_eq_true, if_false]
    refine wpAny_bind (wpAny_holding (iter_tuple ht ?_))
    refine wpAny_bind (wpAny_holding (draw_tuple hlt items.size 0 _ _ ⟨_, Heap.get?_push_size _ rfl, rfl, rfl⟩ (ht.push _) (by omega) fun h₁ hit₁ hs₁ => ?_))
    have hall : List.take items.size (List.drop 0 items.toList) = items.toList := by
      rw [List.drop_zero]; exact List.take_of_length_le (by simp)
    rw [hall]
    rw [if_neg (by simp)]
    have ht₁ : IsTup h₁ t items := (ht.push _).extBut hs₁.extBut hlt
    have hot₁ : HotAt A x1 h₁ := HotAt.keeps hot fun o e => hs₁.extBut x1 o hx1 (Heap.get?_push_of_some _ e)
    refine wpAny_bind (wpAny_holding (next_tuple_end_hot hot₁ hx1 hit₁ ht₁ (by simp) fun h₂ he₂ => ?_))
    simp only [Option.isSome_none, Bool.false_eq_true, if_false]
    refine wpAny_pure (hQ h₂ fun b o hb e => he₂ b o hb (hs₁.extBut b o hb (Heap.get?_push_of_some _ e)))
theorem assign_Tuple_hot {env : Env} {elts : List Expr} {x1' : Nat} {x1 : Addr} {pos : Pos} {t : Addr} {items : Array Value} {Q : Unit → Shared → Prop} (hot : HotAt A x1 s.heap) (ht : IsTup s.heap t items)
    (hn : (assignEach elts env).length = items.size) (hstar : (assignEach elts env).findIdx? (·.1) = none)
    (h : ∀ h', Heap.ExtBut s.heap.objs.size s.heap h' → wpAny (model prog w) A (assignInOrder ((assignEach elts env).map (·.2)) items.toList) Q E { s with heap := h' }) :
    wpAny (model prog w) A (assign (.Tuple elts x1' pos) env (.ref t)) Q E s := by
  rw [assign_Tuple]
  refine wpAny_bind (wpAny_standAt ?_)
  unfold unpack
  rw [hn, hstar]
  exact wpAny_bind (wpAny_holding (unpackItems_hot hot ht h))
end
theorem pg_tupHt {X : Cx} {pos : Pos} {es : List Expr} {k : Nat} {t : TGs} {n : Nat} (hc : HotC X) (h : PGs X es t)
    (hn : (assignEach es X.env).length = n := by rfl) (hst : (assignEach es X.env).findIdx? (·.1) = none := by rfl) : PG X (.Tuple es k pos) (gTup X.K n t) := by
  refine ⟨fun pins s σ H v u Q I r hw => ?_⟩
  obtain ⟨a, xs, e1, hq, hl, hw⟩ := hw
  subst e1
  cases r
  obtain ⟨its, rv, ht, hz⟩ := I.tuple hq
  obtain ⟨x1, hot⟩ := hc.at I
  refine assign_Tuple_hot hot ht (by simp [hn, ← hl, rv.length]) hst fun h' hx => ?_
  have I1 : Inv X pins σ H { s with heap := h' } := I.kept (t' := s.toks) fun b o e => hx b o (Nat.ne_of_lt (Heap.lt_size e)) e
  exact h.run pins _ σ H xs _ Q I1 (by simpa using rv) hw
theorem a_tupHt {X : Cx} {pos : Pos} {es : List Expr} {kk : Nat} {ds : List Dt} {js : List (Nat × Dt)} (hc : HotC X) (h : As X es ds js) (hn : (assignEach es X.env).length = ds.length := by rfl) (hst : (assignEach es X.env).findIdx? (·.1) = none := by rfl) : A X (.Tuple es kk pos) (.tup ds) js := fun σ F H v Q sf r c => by
  obtain ⟨t, ht, hq⟩ := h
  obtain ⟨a, vs, rfl, sq, rl⟩ := rp_tup.mp r
  exact tgOf.of (pg_tupHt hc ht hn hst) ⟨a, vs, rfl, sq_t sf sq, rl.length.symm, hq σ F H vs Q sf rl c⟩
section
variable {P : Program} {w : World} {K : PySem.W.Frag} {mg : Str → Option Value} {base : Heap}
end
end VS
namespace VS
open PySem PySem.Spec L2 L2H
section
variable {P : Program} {w : World} {K : PySem.W.Frag} {mg : Str → Option Value} {base : Heap}
theorem fnH_mono {CX : CXT} {j k : Nat} {f : Addr} {fd : FuncData} {ps : List Str} {sp : Sp} (F : FnH P w K mg base CX j f fd ps sp) (h : j ≤ k) : FnH P w K mg base CX k f fd ps sp :=
  ⟨F.len, fun A outer s H args us vs Q E p hr => F.run A outer s H args us vs Q E p (hr.mono h)⟩
theorem FnHt.mono {j k : Nat} {x : Str} {ps : List Str} {sp : Sp} (F : FnHt P w K mg base j x ps sp) (h : j ≤ k) : FnHt P w K mg base k x ps sp := by
  obtain ⟨f, fd, a, b, c, d⟩ := F.ex
  exact ⟨f, fd, a, b, c, fnH_mono d h⟩
theorem FnMHt.mono {j k : Nat} {C : Addr} {m : Str} {ps : List Str} {sp : Sp} (F : FnMHt P w K mg base j C m ps sp) (h : j ≤ k) : FnMHt P w K mg base k C m ps sp := by
  obtain ⟨f, fd, a, b, c⟩ := F.ex
  exact ⟨f, fd, a, b, fnH_mono c h⟩
theorem FnPHt.mono {j k : Nat} {C : Addr} {m : Str} {φ : Ph} (F : FnPHt P w K mg base j C m φ) (h : j ≤ k) : FnPHt P w K mg base k C m φ := by
  obtain ⟨i, p, g, fd, ps, a, b⟩ := F.ex
  exact ⟨i, p, g, fd, ps, Nat.le_trans a h, b⟩
theorem FnIHt.mono {j k : Nat} {C : Addr} {m : Str} {ps : List Str} {sp : Sp} (F : FnIHt P w K mg base j C m ps sp) (h : j ≤ k) : FnIHt P w K mg base k C m ps sp := by
  obtain ⟨i, a, b⟩ := F.ex
  exact ⟨i, Nat.le_trans a h, b⟩
end
end VS
namespace VS
open PySem PySem.Spec L2 L2H
section
variable {X : Cx} {R : Reg} {G : List Sl} {pos : Pos}
end
end VS
set_option Elab.async false
set_option linter.all false
set_option maxRecDepth 100000
set_option maxHeartbeats 2000000
/-! iteration while an exception is handled -/
namespace VS
open PySem PySem.Spec PyProof.Rows L2 L2H HotX
section
variable {prog : Program} {w : World} {A : Around} {E : Value → Shared → Prop} {s : Shared}
theorem next_list_end_hot {it l : Addr} {i : Nat} {items} {Q : Option Value → Shared → Prop} {x1 : Addr} (hot : HotAt A x1 s.heap)
    (hit : s.heap.IsListIter it l i) (hl : s.heap.IsList l items) (hx : items[i]? = none)
    (hQ : ∀ h', Heap.ExtBut it s.heap h' → Q none { s with heap := h' }) : wpAny (model prog w) A (pyNext (.ref it)) Q E s := by
  obtain ⟨hh, o1, vs1, h1, d1, c1⟩ := hot
  obtain ⟨o, ho, hc, hd⟩ := id hit
  have hx1 : x1 ≠ it := fun z => by
    subst z
    rw [ho] at h1
    cases h1
    rw [hd] at d1
    cases d1
    simp at c1
  obtain ⟨ol, hol, _, nl, hdl⟩ := hl
  unfold pyNext
  refine wpAny_bind (wpAny_attempt (wpAny_callSpecial?_slot (name := Str.ofString "__next__") hit.typeIs slot_listiter_next
    (wpAny_call_entry slot_listiter_next hit.typeIs entry_listiter_next ?_ (args_listiter_next _))))
  show wpAny _ _ (field (.ref it) 0 >>= _) _ _ s
  refine wpAny_bind (wpAny_field ho hd (x := .ref l) rfl ?_)
  show wpAny _ _ (if (Value.ref l == Value.none) = true then _ else _) _ _ s
  rw [if_neg (show ¬ ((Value.ref l == Value.none) = true) from Bool.false_ne_true)]
  show wpAny _ _ (field (.ref it) 1 >>= _) _ _ s
  refine wpAny_bind (wpAny_field ho hd (x := .int i 0) rfl ?_)
  show wpAny _ _ (seqItems? (.ref l) >>= _) _ _ s
  refine wpAny_bind (wpAny_seqItems hol hdl ?_)
  simp only [Int.toNat_natCast, hx]
  refine wpAny_bind (wpAny_rule (wpAny_bind (wpAny_setField ho hd (by simp) ?_)))
  show wpAny _ _ (newExc (.type "StopIteration") [] >>= _) _ _ _
  refine wpAny_bind ?_
  simp only [newExc, newTuple]
  refine wpAny_bind (wpAny_newObj_type ?_ (by size_fits))
  refine wpAny_bind (m := firstArgMember _ _) (wpAny_of_eq (a := Value.none) (by first | rfl | (simp only [firstArgMember]; rfl)) ?_)
  refine wpAny_newObj_type ?_ (by size_fits)
  have h1' : (s.heap.update it (Obj.mapFields (·.setIfInBounds 0 Value.none))).get? x1 = some o1 := by rw [Heap.get?_update_other _ _ (Ne.symm hx1)]; exact h1
  refine raiseNew_hot ⟨hh, o1, vs1, Heap.get?_push_of_some _ (Heap.get?_push_of_some _ h1'), d1, c1⟩ (Nat.ne_of_lt (Heap.lt_size (Heap.get?_push_of_some _ h1'))) (Heap.get?_push_size _ rfl) rfl (by first | (simp; done) | (simp; omega) | (simp only [Array.size_append]; simp; omega)) ?_
  refine wpAny_bind (wpAny_isInstance (T := "StopIteration") (b := true) ⟨_, Heap.get?_update_self _ (Heap.get?_push_size _ rfl) rfl, rfl⟩ isSubtype_stop ?_)
  refine wpAny_pure (hQ _ fun b o hb e => ?_)
  have e2 := (Heap.SameBut.update (h := s.heap) (a := it) (f := Obj.mapFields (·.setIfInBounds 0 Value.none))).extBut b o hb e
  rw [Heap.get?_update_other _ _ (Nat.ne_of_gt (Heap.lt_size (Heap.get?_push_of_some _ e2)))]
  exact Heap.get?_push_of_some _ (Heap.get?_push_of_some _ e2)
end
theorem turn_listH {P : Program} {w : World} {K : PySem.W.Frag} {tg : Expr} (a it : Addr) : TurnH P w K tg (Itl K a) [it] it (fun i h => h.IsListIter it a i) where
  mem := by simp
  obj := fun i h st b hb => by
    have e : b = it := by simpa using hb
    subst e
    obtain ⟨o, e, c, d⟩ := st
    exact ⟨o, e, fun v z => by rw [d] at z; cases z⟩
  keep := fun i h h' st k => st.at fun o e => k it (by simp) o e
  item := by
    intro X hP hw hK hc i pins s σ H E I hf st hg
    subst hP hw hK
    obtain ⟨xs, x, hq, hx⟩ := hg
    obtain ⟨its, rv, p, hz⟩ := I.list hq
    obtain ⟨u, hu, ru⟩ := rv.get hx
    obtain ⟨f0, f1, f2, f3, f4, f5⟩ := hf it (by simp)
    refine wpAny_pyNext_list_item st p.isList (x := u) (by simpa using hu) fun h' st' sb => ?_
    have I1 : Inv X pins σ H { s with heap := h' } := I.turned (t' := s.toks) (fun b o hb e => (sb.2 b hb).trans e) f0 f1 f3 f4 f5
    obtain ⟨o, e, c, d⟩ := id st'
    exact ⟨u, rfl, go_of (s := { s with heap := h' }) e c d (by decide) ⟨x, H, I1, ru, ⟨rfl, fun ys hy => by rw [I.list_inj hy hq]; exact hx⟩, st', fun b hb => (hf b hb).1⟩⟩
  done := by
    intro X hP hw hK hc i pins s σ H E I hf st hg
    subst hP hw hK
    obtain ⟨xs, hq, hx⟩ := hg
    obtain ⟨its, rv, p, hz⟩ := I.list hq
    obtain ⟨f0, f1, f2, f3, f4, f5⟩ := hf it (by simp)
    have hl := rv.length
    obtain ⟨x1, hot⟩ := hc.at I
    exact next_list_end_hot hot st p.isList (by simp; omega) fun h' eb => ⟨rfl, I.turned (t' := s.toks) (fun b o hb e => eb b o hb e) f0 f1 f3 f4 f5⟩
  self := fun _ _ _ _ _ st h => wpAny_pyIter_listiter st h
/-! ### hot iteration of data -/
section
variable {X : Cx} {tg : Expr}
theorem pi_listH {l : Expr} {tl : TE} (hl : PE X l tl) : PIH X tg l (iList X.K tl) := by
  refine ⟨fun pins s σ H R I h => ?_⟩
  refine thn (hl.run pins s σ H _ I h) fun v s1 ⟨x, H1, I1, r1, q1⟩ => ?_
  obtain ⟨a, e, ⟨xs, hq⟩, q⟩ := q1
  subst e
  cases r1
  obtain ⟨its, rv, p, hz⟩ := I1.list hq
  refine wpAny_pyIter_list p.isList ?_
  refine ⟨s1.heap.objs.size, [s1.heap.objs.size], _, _, H1, rfl, I1.kept (t' := s1.toks) fun b o e => Heap.get?_push_of_some _ e, turn_listH a _, ⟨_, Heap.get?_push_size _ rfl, rfl, rfl⟩, fun b hb => ?_, q⟩
  have e : b = s1.heap.objs.size := by simpa using hb
  subst e
  exact I1.fpOk (Nat.le_refl _) (I1.hok.fresh (Nat.le_refl _))
/-- a range object just made, walked -/
theorem pi_range2H {a b : Expr} {ta : TA} {p pos : Pos} (hg : Gl X "range") (hm : X.mg "range" = none) (ha : PA X [a, b] ta) (hs : starEach [a, b] X.env = [(false, eval a X.env), (false, eval b X.env)] := by rfl) (hs2 : starEach [b] X.env = [(false, eval b X.env)] := by rfl) :
    PIH X tg (.Call (.Name "range" p) [a, b] [] pos) (iRng2 ta) := by
  refine ⟨fun pins s σ H R I h => ?_⟩
  refine Call_ (ld_blt I hg hm boot_range (PyProof.Rows.callWith_type1 (thn (ha.run pos pins s σ H _ I h) fun us s1 ⟨vs, H1, I1, r1, q1⟩ => ?_) (by rw [hs, hs2]) (by rw [hs2]; rfl)))
  obtain ⟨i, j, e, ⟨q1, q2, q3, q4⟩, q⟩ := q1
  subst e
  cases r1 with
  | cons r rr =>
    cases rr with
    | cons r' rr =>
      cases rr
      obtain ⟨t, rfl⟩ := r
      obtain ⟨t', rfl⟩ := r'
      exact call_range_2 (range_itH I1 q1 q2 q3 q4 q)
end
@[irreducible] def tiOfH (X : Cx) (tg iter : Expr) : TI := fun σ H R => ∀ pins s, Inv X pins σ H s → wpAny (model X.prog X.w) X.A (eval iter X.env) (fun v s1 => wpAny (model X.prog X.w) X.A (pyIter v) (PIEH X pins σ tg R) X.xe s1) X.xe s
theorem pi_wH {X : Cx} {tg iter : Expr} : PIH X tg iter (tiOfH X tg iter) := ⟨fun pins s σ H R I h => by unfold tiOfH at h; exact h pins s I⟩
theorem tiOfH.of {X : Cx} {tg iter : Expr} {t : TI} {σ : L2.St} {H : Hp} {R : It → Hp → Prop} (h : PIH X tg iter t) (q : t σ H R) : tiOfH X tg iter σ H R := by unfold tiOfH; exact fun pins s I => h.run pins s σ H R I q
def IHt (X : Cx) (R : Reg) (G : List Sl) (tg iter : Expr) (P : List Dt → Prop) : Prop := ∀ σ F H Q, Ty X.K R G σ F H → (∀ J F' H' ds, Ext R F H F' H' → Itd X.K R F' J ds → P ds → Q J H') → tiOfH X tg iter σ H Q
section
variable {X : Cx} {R : Reg} {G : List Sl} {pos : Pos} {k : Kt}
theorem s_forHI {tg iter : Expr} {body : List Stmt} (hp : PassesOwn (model X.prog X.w) X.A X.env X.xe) (hot : HotC X)
    (h : IHt X R G tg iter fun ds => ∃ J : Nat → List Sl → Prop, J 0 G ∧ (∀ i d G, ds[i]? = some d → J i G → ∃ js, A X tg d js ∧ S X R body (setsD G js) { k with nx := J (i + 1), ct := J (i + 1), bk := k.nx }) ∧ ∀ G, J ds.length G → k.nx G)
    (hs : ∀ x, foldedSetIterable iter X.env x = pure x := by intro _; rfl) : S1 X R (.For tg iter body [] pos) G k := fun F0 H0 σ F H D ty b c => by
  refine s1Of.of (ps_forH hp hot pi_wH pg_w pss_w hs) (h σ F H _ ty fun Jt F1 H1 ds ex it ⟨J, j0, jt, jd⟩ => ?_)
  refine ⟨fun i m σ H => m = ds.length - i ∧ i ≤ ds.length ∧ ∃ G F, J i G ∧ Ty X.K R G σ F H ∧ Bs R F0 H0 G σ F H ∧ Same F1 F, ⟨_, rfl, Nat.zero_le _, G, F1, j0, ty.ext ex, b.step ex, .refl _⟩, ?_⟩
  rintro i m σ2 H2 ⟨rfl, hi, G2, F2, jg, ty2, b2, s2⟩
  obtain ⟨hstop, hgo⟩ := it F2 H2 s2 ty2.wf
  by_cases hlt : i < ds.length
  · obtain ⟨g1, g2⟩ := hgo i ds[i] (List.getElem?_eq_getElem hlt)
    refine .inr ⟨g1, _, fun σ' H' z => z, fun x H' y => ?_⟩
    obtain ⟨F3, ex3, r3⟩ := g2 x H' y
    obtain ⟨js, ha, hS⟩ := jt i ds[i] G2 (List.getElem?_eq_getElem hlt) jg
    refine ha σ2 F3 H' x _ ex3.wf.fh r3 fun vs hl rv => ?_
    have b3 := b2.step ex3
    have b4 : Bs R F0 H0 (setsD G2 js) (setsV σ2 ((js.map (·.1)).zip vs)) F3 H' := ⟨b3.ext, fun o ho => b3.fresh o (owns_sets hl ho), b3.z⟩
    have nxt : ∀ G' σ' F' H'', J (i + 1) G' → Ty X.K R G' σ' F' H'' → Bs R F3 H0 G' σ' F' H'' → ∃ m', m' < ds.length - i ∧ m' = ds.length - (i + 1) ∧ i + 1 ≤ ds.length ∧ ∃ G F, J (i + 1) G ∧ Ty X.K R G σ' F H'' ∧ Bs R F0 H0 G σ' F H'' ∧ Same F1 F :=
      fun G' σ' F' H'' z tz bz => ⟨_, by omega, rfl, hlt, G', F', z, tz, Bs.back b3.ext bz b3.z, (s2.trans ex3.ff).trans bz.ext.ff⟩
    have c2 := c.here b3.ext b3.z
    exact hS F3 H0 _ F3 H' _ ((ty2.ext ex3).sets rv) b4.here ⟨nxt, c2.rt, c2.rn, c2.nx, nxt⟩
  · have e : i = ds.length := by omega
    subst e
    exact .inl ⟨hstop _ (Nat.le_refl _), c.nx G2 σ2 F2 H2 (jd G2 jg) ty2 b2⟩
theorem i_lstH {tg e : Expr} {P : List Dt → Prop} (h : E X R G e fun d => ∃ ds, d = .lst ds ∧ P ds) : IHt X R G tg e P := fun σ F H Q ty c =>
  tiOfH.of (pi_listH pe_w) (h σ F H _ ty fun v F1 H1 d ex r ⟨ds, e, p⟩ => by
    subst e
    obtain ⟨a, vs, rfl, sq, rl⟩ := rp_lst.mp r
    refine ⟨a, rfl, ⟨vs, SqL.of (ex.wf.fh _ _ sq)⟩, c _ F1 H1 ds ex (fun F2 H2 sf wf => ?_) p⟩
    have sq2 : SqL X.K H2 a vs := SqL.of (wf.fh _ _ (sf _ _ sq))
    refine ⟨fun i hi => ⟨vs, sq2, by rw [← rl.length]; exact hi⟩, fun i d hd => ?_⟩
    obtain ⟨v, hv, rv⟩ := rl.get hd
    refine ⟨⟨vs, v, sq2, hv⟩, fun x H' y => ?_⟩
    obtain ⟨rfl, y⟩ := y
    have e := y vs sq2
    rw [hv] at e
    cases e
    exact ⟨F2, .refl wf, rv.mono sf⟩)
/-- lo, lo + 1, .. n of them -/
theorem i_range1H {tg a : Expr} {p : Pos} {P : List Dt → Prop} (hg : Gl X "range") (hm : X.mg "range" = none) (h : EA X R G [a] fun ds => ∃ n : Int, ds = [.int n] ∧ -(2 ^ 62) ≤ n ∧ n < 2 ^ 62 ∧ P (rangeD 0 n.toNat)) (hs : starEach [a] X.env = [(false, eval a X.env)] := by rfl) : IHt X R G tg (.Call (.Name "range" p) [a] [] pos) P := fun σ F H Q ty c =>
  tiOfH.of (pi_range1H hg hm pa_w hs) (h σ F H _ ty fun v F1 H1 d ex r ⟨n, e, h1, h2, p⟩ => by
    subst e
    obtain ⟨v, rfl, r1⟩ := r.one
    exact ⟨n, by rw [rp_int.mp r1], h1, h2, c _ F1 H1 _ ex itd_range p⟩)
theorem i_range2H {tg a b : Expr} {p : Pos} {P : List Dt → Prop} (hg : Gl X "range") (hm : X.mg "range" = none) (h : EA X R G [a, b] fun ds => ∃ lo n : Int, ds = [.int lo, .int n] ∧ (-(2 ^ 62) ≤ lo ∧ lo < 2 ^ 62 ∧ -(2 ^ 62) ≤ n ∧ n < 2 ^ 62) ∧ P (rangeD lo (n - lo).toNat))
    (hs : starEach [a, b] X.env = [(false, eval a X.env), (false, eval b X.env)] := by rfl) (hs2 : starEach [b] X.env = [(false, eval b X.env)] := by rfl) : IHt X R G tg (.Call (.Name "range" p) [a, b] [] pos) P := fun σ F H Q ty c =>
  tiOfH.of (pi_range2H hg hm pa_w hs hs2) (h σ F H _ ty fun v F1 H1 d ex r ⟨lo, n, e, h3, p⟩ => by
    subst e
    obtain ⟨v, w, rfl, r1, r2⟩ := r.two
    exact ⟨lo, n, by rw [rp_int.mp r1, rp_int.mp r2], h3, c _ F1 H1 _ ex itd_range p⟩)
end
end VS
set_option Elab.async false
set_option linter.all false
set_option maxRecDepth 100000
set_option maxHeartbeats 4000000
/-! list comprehensions while an exception is handled: the block keeps the handled exception's pin -/
namespace VS
open PySem PySem.Spec PyProof.Rows L2 L2H HotX
/-- a block's context that keeps a pin -/
abbrev blkH (p : Addr × Obj) (X : Cx) (s : Shared) (H : Hp) (scope : Scope) (cenv : Env) (fp : List Addr) : Cx := { X.blk s H scope cenv fp with pn := [p] }
section
variable {X : Cx} {pins : List (Addr × Obj)} {σ : L2.St} {H : Hp} {s : Shared}
end
/-! ### the data -/
section
variable {X : Cx} {R : Reg} {G : List Sl} {pos : Pos} {k : Kt}
def BlkH (p : Addr × Obj) (X : Cx) (scope : Scope) (Y : Cx) : Prop := ∃ s H C cl fp, Y = blkH p X s H scope (compEnvC scope cl C X.env) fp
theorem BlkH.K {p : Addr × Obj} {scope : Scope} {Y : Cx} (b : BlkH p X scope Y) : Y.K = X.K := by
  obtain ⟨s, H, C, cl, fp, rfl⟩ := b
  rfl
def tgBH (p : Addr × Obj) (X : Cx) (scope : Scope) (tg : Expr) : TG := fun v σ H Q => ∀ Y, BlkH p X scope Y → tgOf Y tg v σ H Q
def ttBH (p : Addr × Obj) (X : Cx) (scope : Scope) (ifs : List Expr) : TT := fun σ H Q => ∀ Y, BlkH p X scope Y → tsOf Y ifs σ H Q
def teBH (p : Addr × Obj) (X : Cx) (scope : Scope) (e : Expr) : TE := fun σ H Q => ∀ Y, BlkH p X scope Y → tOf Y e σ H Q
structure LcH (p : Addr × Obj) (X : Cx) (R : Reg) (G : List Sl) (tg elt : Expr) (ifs : List Expr) (scope : Scope) (vs : List Nat) (ds : List Dt) (J : Nat → List Dt → Prop) : Prop where
  start : J 0 []
  step : ∀ i d acc, ds[i]? = some d → J i acc → acc.length ≤ i → ∃ js, (∀ Y, BlkH p X scope Y → A Y tg d js) ∧ (∀ p ∈ js, p.1 ∈ vs) ∧
    ∀ Y, BlkH p X scope Y → Ts Y R (setsD (wipeD G vs) js) ifs fun b => if b = true then ∀ Z, BlkH p X scope Z → E Z R (setsD (wipeD G vs) js) elt fun y => J (i + 1) (acc ++ [y]) else J (i + 1) acc
end
end VS
set_option Elab.async false
set_option linter.all false
set_option maxRecDepth 100000
set_option maxHeartbeats 4000000
/-! dict keys while an exception is handled -/
namespace VS
open PySem PySem.Spec PyProof.Rows L2 L2H HotX
section
variable {prog : Program} {w : World} {A : Around} {E : Value → Shared → Prop} {s : Shared}
end
section
variable {X : Cx} {R : Reg} {G : List Sl} {pos : Pos} {k : Kt}
end
end VS
set_option Elab.async false
set_option linter.all false
set_option maxRecDepth 100000
set_option maxHeartbeats 4000000
/-! lists of one's own from comprehensions while an exception is handled -/
namespace VS
open PySem PySem.Spec PyProof.Rows L2 L2H HotX
section
variable {X : Cx} {R : Reg} {G : List Sl} {pos : Pos} {k : Kt}
end
end VS
set_option Elab.async false
set_option linter.all false
set_option maxRecDepth 100000
set_option maxHeartbeats 4000000
/-! comprehensions of two clauses while an exception is handled -/
namespace VS
open PySem PySem.Spec PyProof.Rows L2 L2H HotX
section
variable {X : Cx}
end
section
variable {X : Cx} {R : Reg} {G : List Sl} {pos : Pos} {k : Kt}
def tiBH (p : Addr × Obj) (X : Cx) (scope : Scope) (tg iter : Expr) : TI := fun σ H Rr => ∀ Y, BlkH p X scope Y → tiOfH Y tg iter σ H Rr
structure Lc2H (p : Addr × Obj) (X : Cx) (R : Reg) (G : List Sl) (tg tg1 iter1 elt : Expr) (scope : Scope) (vs vs1 : List Nat) (ds : List Dt) (J : Nat → List Dt → Prop) : Prop where
  start : J 0 []
  step : ∀ i d acc, ds[i]? = some d → J i acc → ∃ js, (∀ Y, BlkH p X scope Y → A Y tg d js) ∧ (∀ p ∈ js, p.1 ∈ vs) ∧ ∀ Y, BlkH p X scope Y → IHt Y R (setsD (wipeD G vs) js) tg1 iter1 fun es => ∃ J1 : Nat → List Dt → Prop, J1 0 acc ∧
    (∀ j e acc', es[j]? = some e → J1 j acc' → acc'.length < 100000 ∧ ∃ js1, (∀ Z, BlkH p X scope Z → A Z tg1 e js1) ∧ (∀ p ∈ js1, p.1 ∈ vs1) ∧ ∀ Z, BlkH p X scope Z → E Z R (setsD (wipeD (setsD (wipeD G vs) js) vs1) js1) elt fun y => J1 (j + 1) (acc' ++ [y])) ∧ ∀ acc', J1 es.length acc' → J (i + 1) acc'
end
end VS
set_option Elab.async false
set_option linter.all false
set_option maxRecDepth 100000
set_option maxHeartbeats 4000000
/-! dict comprehensions while an exception is handled -/
namespace VS
open PySem PySem.Spec L2 L2H HotX PyProof.Rows
section
variable {X : Cx}
/-- what a dict comprehension's turns give -/
structure DcH (p : Addr × Obj) (X : Cx) (R : Reg) (G : List Sl) (tg kx vx : Expr) (ifs : List Expr) (scope : Scope) (vs : List Nat) (ds : List Dt) (J : Nat → List (List Key) → List Dt → Prop) : Prop where
  start : J 0 [] []
  step : ∀ i d ks xs, ds[i]? = some d → J i ks xs → ks.length ≤ i → ∃ js, (∀ Y, BlkH p X scope Y → A Y tg d js) ∧ (∀ p ∈ js, p.1 ∈ vs) ∧
    ∀ Y, BlkH p X scope Y → Ts Y R (setsD (wipeD G vs) js) ifs fun b => if b = true then ∀ Z, BlkH p X scope Z → E Z R (setsD (wipeD G vs) js) kx fun dk => ∃ q, dk = .key q ∧ ∀ Z', BlkH p X scope Z' → E Z' R (setsD (wipeD G vs) js) vx fun y => J (i + 1) (putT ks q) (putX ks xs q y) else J (i + 1) ks xs
variable {R : Reg} {G : List Sl} {pos : Pos} {k : Kt}
end
end VS
set_option Elab.async false
set_option linter.all false
set_option maxRecDepth 100000
set_option maxHeartbeats 4000000
/-! any(..), a, b = x, y while an exception is handled -/
namespace VS
open PySem PySem.Spec PyProof.Rows L2 L2H HotX
section
variable {X : Cx}
variable {R : Reg} {G : List Sl} {pos : Pos} {k : Kt}
end
end VS
set_option Elab.async false
set_option linter.all false
set_option maxRecDepth 100000
set_option maxHeartbeats 4000000
/-! a class called, == != in of own classes while an exception is handled -/
namespace VS
open PySem PySem.Spec PyProof.Rows L2 L2H HotX
/-- a hot promise by positional values -/
def FnRH (P : Program) (w : World) (K : PySem.W.Frag) (mg : Str → Option Value) (base : Heap) (CX : CXT) (k : Nat) (f : Addr) (sp : Sp) : Prop :=
  ∀ (A : Around) (outer : List Env) (s : Shared) (H : Hp) (us : List Value) (vs : List V) (Q : VK) (E : XK) (p : Addr × Obj), RoomH k A → Hot1 A p → PinOk outer H s p → Env0 P w K mg base A outer s H → Vals vs us → sp vs H Q E →
    codeAny (model P w) A (.call (.ref f) ⟨us, []⟩) (CR CX outer P w H s Q E) s
section
variable {P : Program} {w : World} {K : PySem.W.Frag} {mg : Str → Option Value} {base : Heap} {CX : CXT} {j k : Nat} {f : Addr} {sp sp' : Sp}
theorem FnRH.mono (F : FnRH P w K mg base CX j f sp) (h : j ≤ k) : FnRH P w K mg base CX k f sp := fun A outer s H us vs Q E p hr => F A outer s H us vs Q E p (hr.mono h)
theorem FnRH.imp (F : FnRH P w K mg base CX k f sp) (h : ∀ vs H Q E, sp' vs H Q E → sp vs H Q E) : FnRH P w K mg base CX k f sp' := fun A outer s H us vs Q E p hr hot hp e0 r hs => F A outer s H us vs Q E p hr hot hp e0 r (h _ _ _ _ hs)
end
section
variable {P : Program} {w : World} {K : PySem.W.Frag} {mg : Str → Option Value} {base : Heap}
structure FnCHt (P : Program) (w : World) (K : PySem.W.Frag) (mg : Str → Option Value) (base : Heap) (k : Nat) (x : Str) (n : Nat) (φ : Ph) : Prop where
  ex : ∃ f : Addr, mg x = some (.ref f) ∧ PySem.W.keepIn K (.ref f) = true ∧ FnRH P w K mg base (L2N.CX P w) k f (spD K n φ)
theorem FnCHt.mono {j k : Nat} {x : Str} {n : Nat} {φ : Ph} (F : FnCHt P w K mg base j x n φ) (h : j ≤ k) : FnCHt P w K mg base k x n φ := by
  obtain ⟨f, a, b, c⟩ := F.ex
  exact ⟨f, a, b, c.mono h⟩
end
section
variable {X : Cx} {R : Reg} {G : List Sl} {pos : Pos} {k : Kt}
end
end VS
set_option Elab.async false
set_option linter.all false
set_option maxRecDepth 100000
set_option maxHeartbeats 4000000
/-! walking a text while an exception is handled -/
namespace VS
open PySem PySem.Spec PyProof.Rows L2 L2H HotX
section
variable {prog : Program} {w : World} {A : Around} {E : Value → Shared → Prop} {s : Shared}
end
section
variable {X : Cx} {R : Reg} {G : List Sl} {pos : Pos} {k : Kt}
end
end VS
set_option Elab.async false
set_option linter.all false
set_option maxRecDepth 100000
/-! rules for comprehensions while an exception is handled -/
namespace VS
open PySem PySem.Spec L2 L2H HotX
theorem RoomHt.of {k : Nat} {X Y : Cx} (r : RoomHt k X) {p : Addr × Obj} (h : Hot1 X.A p) (e : Y.A = X.A) (hp : p ∈ Y.pn) : RoomHt k Y := ⟨by rw [e]; exact r.rm, p, by rw [e]; exact h, hp⟩
section
variable {X : Cx} {R : Reg} {pos : Pos} {k : Kt}
end
section
variable {X : Cx} {R : Reg} {G : List Sl} {pos : Pos} {k : Kt}
end
end VS
set_option Elab.async false
set_option linter.all false
set_option maxRecDepth 100000
set_option maxHeartbeats 2000000
/-! defs that are called in an except suite with the caught exception as an argument -/
namespace VS
open PySem PySem.Spec L2 L2H PyProof.Rows HotX
/-- a promise that knows the handled exception p -/
structure FnHp (P : Program) (w : World) (K : PySem.W.Frag) (mg : Str → Option Value) (base : Heap) (CX : CXT) (k : Nat) (f : Addr) (fd : FuncData) (ps : List Str) (sp : Addr × Obj → Sp) : Prop where
  len : ∀ p vs H Q E, sp p vs H Q E → vs.length = ps.length
  run : ∀ (A : Around) (outer : List Env) (s : Shared) (H : Hp) (args : Args) (us : List Value) (vs : List V) (Q : VK) (E : XK) (p : Addr × Obj), RoomH k A → Hot1 A p → PinOk outer H s p → Env0 P w K mg base A outer s H → BindsTo s fd args (ps.zip us) → Vals vs us → sp p vs H Q E →
    codeAny (model P w) A (.call (.ref f) args) (CR CX outer P w H s Q E) s
theorem FnHp.mono {P : Program} {w : World} {K : PySem.W.Frag} {mg : Str → Option Value} {base : Heap} {CX : CXT} {j k : Nat} {f : Addr} {fd : FuncData} {ps : List Str} {sp : Addr × Obj → Sp} (F : FnHp P w K mg base CX j f fd ps sp) (h : j ≤ k) : FnHp P w K mg base CX k f fd ps sp := ⟨F.len, fun A outer s H args us vs Q E p hr => F.run A outer s H args us vs Q E p (hr.mono h)⟩
/-- its call, with p known -/
theorem FnHp.at {P : Program} {w : World} {K : PySem.W.Frag} {mg : Str → Option Value} {base : Heap} {CX : CXT} {k : Nat} {f : Addr} {fd : FuncData} {ps : List Str} {sp : Addr × Obj → Sp} (F : FnHp P w K mg base CX k f fd ps sp) {X : Cx} {E : L2.St → XK} {p : Addr × Obj} {pins : List (Addr × Obj)} {σ : L2.St} {H : Hp} {s : Shared} {Q : VK} {us : List Value} {vs : List V} (hP : X.prog = P) (hw : X.w = w) (hK : X.K = K) (hm : X.mg = mg) (hB : X.base = base) (hr : RoomH k X.A) (hot : Hot1 X.A p) (hp : p ∈ X.pn) (hb : Binds X.K fd ps []) (hx : PassesAt CX X σ (E σ))
    (I : Inv X pins σ H s) (r : Vals vs us) (h : sp p vs H Q (E σ)) : wpAny (model X.prog X.w) X.A (call (.ref f) us) (EP X pins σ Q) X.xe s := by
  subst hP hw hK hm hB
  have hl : us.length = ps.length := by rw [← r.length]; exact F.len _ _ _ _ _ h
  have b := hb s us I.kIn (by rw [List.append_nil]; exact hl)
  rw [List.append_nil] at b
  have P1 := I.pin p (List.mem_append_left _ hp)
  have hpin : PinOk X.stack H s p := ⟨P1.1, P1.2.1, fun hm => (List.mem_cons.mp (I.stkSub p.1 hm)).elim P1.2.2.1 P1.2.2.2.1, P1.2.2.2.2⟩
  refine wpAny_call (codeAny_mono (F.run X.A X.stack s H ⟨us, []⟩ us vs Q (E σ) p hr hot hpin I.env0 b r h) fun r s' hq => ?_)
  cases r with
  | error e => exact hx pins H s e s' I hq
  | ok fl =>
    cases fl with
    | ret u => exact I.after hq
    | next => exact False.elim hq
    | brk => exact False.elim hq
    | cont => exact False.elim hq
section
variable {X : Cx} {R : Reg} {G : List Sl} {pos : Pos}
end
structure FnHx (P : Program) (w : World) (K : PySem.W.Frag) (mg : Str → Option Value) (base : Heap) (k : Nat) (x : Str) (ps : List Str) (n : Nat) (φ : Addr × Obj → Ph) : Prop where
  ex : ∃ (f : Addr) (fd : FuncData), mg x = some (.ref f) ∧ PySem.W.keepIn K (.ref f) = true ∧ Binds K fd ps [] ∧ FnHp P w K mg base (L2N.CX P w) k f fd ps (fun p => spD K n (φ p))
section
variable {P : Program} {w : World} {K : PySem.W.Frag} {mg : Str → Option Value} {base : Heap}
theorem FnHx.mono {j k : Nat} {x : Str} {ps : List Str} {n : Nat} {φ : Addr × Obj → Ph} (F : FnHx P w K mg base j x ps n φ) (h : j ≤ k) : FnHx P w K mg base k x ps n φ := by
  obtain ⟨f, fd, a, b, c, d⟩ := F.ex
  exact ⟨f, fd, a, b, c, d.mono h⟩
end
section
variable {X : Cx} {R : Reg} {G : List Sl} {pos : Pos}
end
end VS
set_option Elab.async false
set_option linter.all false
set_option maxRecDepth 100000
/-! the text form of a table -/
namespace VS
open PySem PySem.Spec L2
def nL (z : Int) : List Nat := TL.numL z.toNat
def limL (lim : Nat) : List Nat := [108, 105, 109, 105, 116] ++ 32 :: TL.numL lim
def lookL (looks : List Int) : List Nat := TL.joinL [32] ([108, 111, 111, 107, 115] :: looks.map nL)
def entL (e : (Int × Int) × Str) : List Nat := nL e.1.1 ++ 32 :: (nL e.1.2 ++ 32 :: e.2.cps.toList)
def linesL (lim : Nat) (looks : List Int) (E : Al Str) : List (List Nat) := limL lim :: lookL looks :: E.map entL
def textL (lim : Nat) (looks : List Int) (E : Al Str) : List Nat := TL.joinL [10] (linesL lim looks E)
/-! the order of the entries -/
def ltK (a b : Int × Int) : Prop := a.1 + a.2 < b.1 + b.2 ∨ a.1 + a.2 = b.1 + b.2 ∧ a.1 < b.1
theorem cnt_ltK : ∀ n : Nat, (cnt n).Pairwise ltK
  | 0 => by unfold cnt; simp
  | n + 1 => by
    rw [cnt_succ, List.pairwise_append]
    refine ⟨cnt_ltK n, ?_, fun a ha b hb => ?_⟩
    · unfold cRow
      rw [List.pairwise_map]
      refine (List.pairwise_lt_range (n := n + 2)).imp fun {a b} h => .inr ?_
      show (a : Int) + (1 + (n : Int) - a) = b + (1 + n - b) ∧ (a : Int) < b
      omega
    · have h1 := (mem_cnt.mp ha)
      have h2 := (mem_cRow.mp hb)
      exact .inl (by omega)
theorem ltK_ne {a b : Int × Int} (h : ltK a b) : a ≠ b := fun e => by
  subst e
  rcases h with h | h <;> omega
def entF (rl : Al Str) (L : List (Int × Int)) : Al Str := L.filterMap fun c => (lk rl c).map fun x => (c, x)
theorem cnt_nodup (n : Nat) : (cnt n).Nodup := (cnt_ltK n).imp fun h => ltK_ne h
/-! sizes, what stands not in a line -/
/-- entries of a table's text -/
def EnOk (E : Al Str) : Prop := E.length ≤ 500 ∧ ∀ e ∈ E, 0 ≤ e.1.1 ∧ 0 ≤ e.1.2 ∧ e.1.1 + e.1.2 ≤ 30 ∧ Wd e.2
/-! promises -/
def ph_is_word : Ph := fun ds q _ => ∃ x : Str, ds = [.str x] ∧ Wd x ∧ q (.bl true)
def TwOk (T : Tb) : Prop := T.looks ≠ [] ∧ T.lim ≤ 30 ∧ T.looks.length ≤ 30 ∧ (∀ z ∈ T.looks, 0 ≤ z ∧ z ≤ 30) ∧ EnOk T.ent ∧ (T.ent.map (·.1)).Nodup
def ph_write_table (C : Addr) : Ph := fun ds q _ => ∃ T : Tb, ds = [tabD C T] ∧ TwOk T ∧ q (.str (SX.S (textL T.lim T.looks T.ent)))
def ph_read_limit : Ph := fun ds q _ => ∃ lim : Nat, ds = [.str (SX.S (limL lim))] ∧ (1 ≤ lim ∧ lim ≤ 30) ∧ q (.int (lim : Nat))
/-- looks of a table -/
def LkOk (lim : Nat) (looks : List Int) : Prop := looks.length ≤ 30 ∧ lim ≤ 30 ∧ looks.Pairwise (· < ·) ∧ (∀ z ∈ looks, 1 ≤ z ∧ z ≤ 30) ∧ ∃ l', looks = l' ++ [(lim : Int)]
def ph_read_looks : Ph := fun ds q _ => ∃ (lim : Nat) (looks : List Int), ds = [.str (SX.S (lookL looks)), .int (lim : Nat)] ∧ LkOk lim looks ∧ q (.lst (looks.map .int))
def ph_read_entry : Ph := fun ds q _ => ∃ (e : (Int × Int) × Str) (lim : Nat) (k : Int), ds = [.str (SX.S (entL e)), .int (lim : Nat), .int k] ∧ (0 ≤ e.1.1 ∧ 0 ≤ e.1.2 ∧ 1 ≤ e.1.1 + e.1.2 ∧ e.1.1 + e.1.2 ≤ lim ∧ lim ≤ 30 ∧ Wd e.2) ∧ q (.tup [.int (e.1.1 + e.1.2), .int e.1.1, .str e.2])
/-- a text's table -/
def RtOkN (lim : Nat) (looks : List Int) (E : Al Str) : Prop := Vr lim looks E ∧ E.length ≤ 500 ∧ E.Pairwise fun a b => ltK a.1 b.1
def ph_read_table (C : Addr) : Ph := fun ds q _ => ∃ (lim : Nat) (looks : List Int) (E : Al Str), ds = [.str (SX.S (textL lim looks E))] ∧ RtOkN lim looks E ∧ q (tabD C (mkT lim looks E))
def ph__law_lines : Ph := fun ds q _ => ∃ (lim : Nat) (looks : List Int) (rl : Al Str), ds = [ptD lim looks rl] ∧ Vr lim looks rl ∧ q (.lst ((linesL lim looks (entOf rl lim)).map fun l => .str (SX.S l)))
end VS
set_option Elab.async false
set_option linter.all false
set_option maxRecDepth 100000
set_option maxHeartbeats 2000000
/-! {k: v, l: u} with tuples as keys; a text repeated -/
namespace VS
open PySem PySem.Spec L2
def repT (x : Str) (n : Int) : Str := Txt.mul x n
section
variable {X : Cx} {R : Reg} {G : List Sl} {pos : Pos} {k : Kt}
end
end VS
set_option Elab.async false
set_option linter.all false
set_option maxRecDepth 100000
set_option maxHeartbeats 2000000
/-! plain: binomial sums, the plan with one look -/
namespace VS
open PySem PySem.Spec L2
/-- the chance of w wins out of n -/
def binT (p r : Int) (n w : Nat) : Int := (bin n w : Int) * p ^ w * r ^ (n - w)
/-- the mean of g over the wins -/
def binU (p r : Int) : Nat → (Nat → Int) → Int
  | 0, g => g 0
  | n + 1, g => p * binU p r n (fun w => g (w + 1)) + r * binU p r n g
/-- the rule of the plan, w from 0 to i - 1 -/
def planF (n : Nat) (f : Nat → Str) (i : Nat) : Al Str := (List.range i).map fun w : Nat => (((w : Int), (n : Int) - (w : Int)), f w)
end VS
set_option Elab.async false
set_option linter.all false
set_option maxRecDepth 100000
set_option maxHeartbeats 2000000
/-! plain: binomial sums as polynomials; the plan's table -/
namespace VS
open PySem PySem.Spec L2
/-- the counts with s to s + k - 1 wins -/
def rowC (n s k : Nat) : List (Int × Int) := (List.range k).map fun i : Nat => (((s + i : Nat) : Int), ((n - (s + i) : Nat) : Int))
/-- their chance as a polynomial -/
def rowB (n s k : Nat) : List Int := accP (fun c => (bin n c.1.toNat : Int)) (rowC n s k)
def plW (m : Nat) (up down : Str) (w : Nat) : Str := if m ≤ w then up else down
def plT (n m : Nat) (up down : Str) : Tb := mkT n [(n : Int)] (planF n (plW m up down) (n + 1))
abbrev upW (a d : Nat) : Str := SX.S (wordL kAt a d)
abbrev dnW (a d : Nat) : Str := SX.S (wordL kBe a d)
/-- a share strictly between 0 and 1 -/
def InS (a d : Nat) : Prop := 0 < a ∧ a < d ∧ d ≤ 20 ∧ Nat.gcd a d = 1
end VS
set_option Elab.async false
set_option linter.all false
set_option maxRecDepth 100000
/-! texts of tables: what the law makes -/
namespace VS
open PySem PySem.Spec L2
theorem lk_nd_iff {α : Type} {m : Al α} (hn : (m.map (·.1)).Nodup) {c : Int × Int} {x : α} : lk m c = some x ↔ (c, x) ∈ m := ⟨lk_memE, fun h => lk_nd hn h⟩
def PtK (lim : Nat) (looks : List Int) (rl : Al Str) : Prop := Vr lim looks rl ∧ rl.length ≤ 500 ∧ (rl.map (·.1)).Nodup
theorem PtK.of {lim : Nat} {looks : List Int} {rl : Al Str} (h : Vt lim looks rl) : PtK lim looks rl := by
  refine ⟨h.toVr, h.rlen, ?_⟩
  obtain ⟨ks, hks, ek⟩ := h.ord
  rw [ek]
  have e := cnt_nodup lim
  rw [cnt_cast] at e
  exact e.sublist (hks.map castP)
/-- the entries made here -/
def tabF (c0 : Int × Int) (x0 : Str) (lim : Nat) (f : Nat → Str) (i : Nat) : Al Str := (c0, x0) :: (List.range i).map fun w : Nat => (((w : Int), (lim : Int) - w), f w)
end VS
set_option Elab.async false
set_option linter.all false
set_option maxRecDepth 100000
/-! a thing that a call has made is new: a list within it may be changed, what was known before stays. -/
namespace VS
open PySem PySem.Spec L2
open Classical in
/-- F without the lists that F0 has not -/
noncomputable def keepF (F0 F : Hp) : Hp := fun a => if (∃ xs, F a = some (.lst xs)) ∧ F0 a = none then none else F a
section
variable {F0 F : Hp} {a : Addr} {u : HO}
theorem keepF_le (h : keepF F0 F a = some u) : F a = some u := by
  unfold keepF at h
  split at h
  · cases h
  · exact h
theorem keepF_nl (h : F a = some u) (hu : ∀ xs, u ≠ .lst xs) : keepF F0 F a = some u := by
  unfold keepF
  rw [if_neg (fun z => by obtain ⟨⟨xs, e⟩, _⟩ := z; rw [h] at e; exact hu xs (Option.some.inj e))]
  exact h
theorem keepF_old (s : Same F0 F) (h : F0 a = some u) : keepF F0 F a = some u := by
  unfold keepF
  rw [if_neg (fun z => by rw [h] at z; exact nomatch z.2)]
  exact s _ _ h
theorem keepF_none (h : F a = none) : keepF F0 F a = none := by
  unfold keepF
  split
  · rfl
  · exact h
theorem keepF_new {xs : List V} (h : F a = some (.lst xs)) (h0 : F0 a = none) : keepF F0 F a = none := by
  unfold keepF
  rw [if_pos ⟨⟨xs, h⟩, h0⟩]
end
mutual
/-- data without a list -/
def nol : Dt → Bool
  | .tup xs => nolL xs
  | .lst _ => false
  | .frl _ => false
  | .dT _ xs => nolL xs
  | .dK _ xs => nolL xs
  | .obj _ _ xs => nolL xs
  | .exv _ _ xs _ => nolL xs
  | .at_ _ d => nol d
  | .non => true
  | .bl _ => true
  | .int _ => true
  | .str _ => true
  | .ty _ => true
  | .adr _ => true
  | .key _ => true
def nolL : List Dt → Bool
  | [] => true
  | x :: xs => nol x && nolL xs
end
section
variable {K : PySem.W.Frag} {F F' : Hp}
theorem rd_kp {a : Addr} {u : HO} (hk : ∀ a u, F a = some u → (∀ xs, u ≠ .lst xs) → F' a = some u) (hu : ∀ xs, u ≠ .lst xs) (h : Rd F a u) : Rd F' a u := by
  rcases h with h | ⟨o, h⟩
  · exact .inl (hk _ _ h hu)
  · exact .inr ⟨o, hk _ _ h fun _ z => nomatch z⟩
mutual
theorem rp_nol (hk : ∀ a u, F a = some u → (∀ xs, u ≠ .lst xs) → F' a = some u) : ∀ {d : Dt} {v : V}, Rp K F d v → nol d = true → Rp K F' d v
  | .non, _, h, _ => by simp only [Rp] at h ⊢; exact h
  | .bl _, _, h, _ => by simp only [Rp] at h ⊢; exact h
  | .int _, _, h, _ => by simp only [Rp] at h ⊢; exact h
  | .str _, _, h, _ => by simp only [Rp] at h ⊢; exact h
  | .ty _, _, h, _ => by simp only [Rp] at h ⊢; exact h
  | .adr _, _, h, _ => by simp only [Rp] at h ⊢; exact h
  | .tup xs, _, h, hf => by
    simp only [Rp] at h ⊢
    simp only [nol] at hf
    obtain ⟨a, vs, h1, h2, h3⟩ := h
    refine ⟨a, vs, h1, ?_, rpL_nol hk h3 hf⟩
    rcases h2 with h2 | h2
    · exact .inl (rd_kp hk (fun _ z => nomatch z) h2)
    · exact .inr h2
  | .lst xs, _, h, hf => by simp only [nol] at hf; cases hf
  | .frl xs, _, h, hf => by simp only [nol] at hf; cases hf
  | .dT ks xs, _, h, hf => by
    simp only [Rp] at h ⊢
    simp only [nol] at hf
    obtain ⟨a, vs, h1, h2, h4, h3⟩ := h
    exact ⟨a, vs, h1, rd_kp hk (fun _ z => nomatch z) h2, h4, rpL_nol hk h3 hf⟩
  | .dK ks xs, _, h, hf => by
    simp only [Rp] at h ⊢
    simp only [nol] at hf
    obtain ⟨a, vs, h1, h2, h4, h3⟩ := h
    exact ⟨a, vs, h1, rd_kp hk (fun _ z => nomatch z) h2, h4, rpL_nol hk h3 hf⟩
  | .key ks, _, h, hf => by
    simp only [Rp] at h ⊢
    obtain ⟨a, h1, h2⟩ := h
    exact ⟨a, h1, hk _ _ h2 fun _ z => nomatch z⟩
  | .obj C ns xs, _, h, hf => by
    simp only [Rp] at h ⊢
    simp only [nol] at hf
    obtain ⟨a, dx, vs, h1, h2, h4, h3⟩ := h
    exact ⟨a, dx, vs, h1, hk _ _ h2 (fun _ z => nomatch z), h4, rpL_nol hk h3 hf⟩
  | .exv a ns xs d, _, h, hf => by
    simp only [Rp] at h ⊢
    simp only [nol] at hf
    refine ⟨h.1, fun dx hd => ?_⟩
    obtain ⟨vs, h1, h2, h3⟩ := h.2 dx hd
    exact ⟨vs, hk _ _ h1 (fun _ z => nomatch z), h2, rpL_nol hk h3 hf⟩
  | .at_ a d, _, h, hf => by
    simp only [Rp] at h ⊢
    simp only [nol] at hf
    exact ⟨h.1, rp_nol hk h.2 hf⟩
theorem rpL_nol (hk : ∀ a u, F a = some u → (∀ xs, u ≠ .lst xs) → F' a = some u) : ∀ {ds : List Dt} {vs : List V}, RpL K F ds vs → nolL ds = true → RpL K F' ds vs
  | [], _, h, _ => by simp only [RpL] at h ⊢; exact h
  | d :: ds, _, h, hf => by
    simp only [RpL] at h ⊢
    simp only [nolL, Bool.and_eq_true] at hf
    obtain ⟨v, r, h1, h2, h3⟩ := h
    exact ⟨v, r, h1, rp_nol hk h2 hf.1, rpL_nol hk h3 hf.2⟩
end
end
/-- what is known still without the new lists; what has a place is known by what stood there -/
inductive Cv (K : PySem.W.Frag) (F0 : Hp) : List Sl → List Sl → Prop where
  | nil : Cv K F0 [] []
  | no {g : Sl} {G B : List Sl} (h : Cv K F0 G B) : Cv K F0 (g :: G) (.no :: B)
  | sh {d : Dt} {G B : List Sl} (hf : nol d = true) (h : Cv K F0 G B) : Cv K F0 (.sh d :: G) (.sh d :: B)
  | ow {ds : List Dt} {G B : List Sl} (hf : nolL ds = true) (h : Cv K F0 G B) : Cv K F0 (.ow (.lst ds) :: G) (.ow (.lst ds) :: B)
  | tg {a : Addr} {d d' : Dt} {G B : List Sl} (r : Rp K F0 d (.ref a)) (h : Cv K F0 G B) : Cv K F0 (.sh (.at_ a d') :: G) (.sh d :: B)
section
variable {K : PySem.W.Frag} {R : Reg} {F0 F F' H H' : Hp}
theorem Cv.ok {G B : List Sl} (h : Cv K F0 G B) (hk : ∀ a u, F a = some u → (∀ xs, u ≠ .lst xs) → F' a = some u) (h0 : Same F0 F') (hn : ∀ a, F a = none → F' a = none) (hH : ∀ a u, F a = none → H a = some u → H' a = some u) :
    ∀ {σ : St}, SlsOk K R F H G σ → SlsOk K R F' H' B σ := by
  induction h with
  | nil => intro σ sl; cases sl; exact .nil
  | no h ih => intro σ sl; cases sl with | cons h1 h2 => exact .cons trivial (ih h2)
  | sh hf h ih => intro σ sl; cases sl with | cons h1 h2 => exact .cons (by obtain ⟨v, e, r⟩ := h1; exact ⟨v, e, rp_nol hk r hf⟩) (ih h2)
  | ow hf h ih => intro σ sl; cases sl with | cons h1 h2 => exact .cons (by obtain ⟨o, e, f1, m, vs, e2, r⟩ := h1; exact ⟨o, e, hn _ f1, m, vs, hH _ _ f1 e2, rpL_nol hk r hf⟩) (ih h2)
  | tg r h ih => intro σ sl; cases sl with | cons h1 h2 => exact .cons (by obtain ⟨v, e, r1⟩ := h1; simp only [Rp] at r1; obtain ⟨rfl, _⟩ := r1; exact ⟨_, e, r.mono h0⟩) (ih h2)
theorem Cv.owns {G B : List Sl} (h : Cv K F0 G B) : ∀ {σ : St}, List.Sublist (owns B σ) (owns G σ) := by
  induction h with
  | nil => intro σ; exact List.Sublist.refl _
  | @no g G B h ih =>
    intro σ
    cases σ with
    | nil => cases g <;> simp [VS.owns]
    | cons v σ =>
      have e : VS.owns (.no :: B) (v :: σ) = VS.owns B σ := by simp only [VS.owns]
      rw [e]
      cases g with
      | no => simpa [VS.owns] using ih
      | sh d => simpa [VS.owns] using ih
      | ow d =>
        cases v with
        | none => simpa [VS.owns] using ih
        | some x =>
          cases x with
          | ref p => simp only [VS.owns]; exact List.Sublist.cons _ ih
          | _ => simpa [VS.owns] using ih
  | sh hf h ih => intro σ; cases σ with | nil => simp [VS.owns] | cons v σ => simpa [VS.owns] using ih
  | ow hf h ih =>
    intro σ
    cases σ with
    | nil => simp [VS.owns]
    | cons v σ =>
      cases v with
      | none => simpa [VS.owns] using ih
      | some x =>
        cases x with
        | ref p => simp only [VS.owns]; exact List.Sublist.cons₂ _ ih
        | _ => simpa [VS.owns] using ih
  | tg r h ih => intro σ; cases σ with | nil => simp [VS.owns] | cons v σ => simpa [VS.owns] using ih
/-- back to what is known without the new lists -/
theorem Cv.back {F0 H0 : Hp} {G B : List Sl} {σ : St} (cv : Cv K F0 G B) (ty : Ty K R G σ F H) (bs : Bs R F0 H0 G σ F H)
    (hH : ∀ a u, H a = some u → ((∃ xs, F a = some (.lst xs)) ∧ F0 a = none ∧ H0 a = none) ∨ H' a = some u) : Ty K R B σ (keepF F0 F) H' ∧ Bs R F0 H0 B σ (keepF F0 F) H' := by
  have hM : ∀ a u, R.M a → H a = some u → H' a = some u := fun a u m h => by
    rcases hH a u h with ⟨⟨xs, z⟩, _⟩ | z
    · rw [ty.wf.off a m] at z; cases z
    · exact z
  have wf : Wf R (keepF F0 F) H' := by
    refine ⟨fun a u h => ?_, fun a m => keepF_none (ty.wf.off a m), fun a m => ?_, R.st _ _ (fun a o m h => hM a o m h) ty.wf.b⟩
    · rcases hH a u (ty.wf.fh _ _ (keepF_le h)) with ⟨⟨xs, z⟩, z2, _⟩ | z
      · rw [keepF_new z z2] at h; cases h
      · exact z
    · obtain ⟨u, h1, h2⟩ := ty.wf.oc a m
      exact ⟨u, hM a u m h1, h2⟩
  refine ⟨⟨wf, cv.ok (fun a u h hu => keepF_nl h hu) (fun a u h => keepF_old bs.ext.ff h) (fun a h => keepF_none h) (fun a u h1 h2 => ?_) ty.sl, ty.nd.sublist cv.owns⟩, ⟨⟨wf, fun a u h => keepF_old bs.ext.ff h, fun a o n h => ?_, fun a h n => keepF_none (bs.ext.fr a h n)⟩, fun o ho => bs.fresh o (cv.owns.subset ho), bs.z⟩⟩
  · rcases hH a u h2 with ⟨⟨xs, z⟩, _⟩ | z
    · rw [h1] at z; cases z
    · exact z
  · rcases hH a o (bs.ext.hh a o n h) with ⟨_, _, z⟩ | z
    · rw [h] at z; cases z
    · exact z
end
/-- statements from one entry on -/
def SB (X : Cx) (R : Reg) (F0 H0 : Hp) (ss : List Stmt) (G : List Sl) (k : Kt) : Prop := ∀ σ F H D, Ty X.K R G σ F H → Bs R F0 H0 G σ F H → KOk X.K R F0 H0 k D → sOf X ss D σ H
section
variable {X : Cx} {R : Reg} {G : List Sl} {pos : Pos} {k : Kt} {F0 H0 : Hp}
/-- the new list in slot i becomes one's own -/
theorem Cv.own {B : List Sl} {σ : St} {F H H' : Hp} {i : Nat} {p : Addr} {ds : List Dt} {as' : List Addr} (cv : Cv X.K F0 G B) (ty : Ty X.K R G σ F H) (bs : Bs R F0 H0 G σ F H) (hg : G[i]? = some (.sh (.at_ p (.lst ds)))) (hr : ∀ F vs, RpL X.K F ds vs → vs = as'.map V.ref) (f0 : F0 p = none) (h0 : H0 p = none)
    (hH : ∀ a u, H a = some u → ((∃ xs, F a = some (.lst xs)) ∧ F0 a = none ∧ H0 a = none) ∨ H' a = some u) (hp : H' p = H p) : Ty X.K R (B.set i (.ow (.lst (as'.map .adr)))) σ (keepF F0 F) H' ∧ Bs R F0 H0 (B.set i (.ow (.lst (as'.map .adr)))) σ (keepF F0 F) H' := by
  obtain ⟨tB, bB⟩ := cv.back ty bs hH
  obtain ⟨v, e1, y, e2, r⟩ := ty.sl.get hg
  simp only [Rp] at r
  obtain ⟨rfl, q, vs, e3, e4, e5⟩ := r
  cases e3
  have eσ : σ.set i (some (.ref p)) = σ := by
    rw [e2] at e1
    obtain ⟨hi, he⟩ := List.getElem?_eq_some_iff.mp e1
    rw [← he]
    exact List.set_getElem_self hi
  have nin : ∀ o ∈ VS.owns B σ, o ≠ p := fun o ho z => by
    obtain ⟨j, d, h1, h2⟩ := owns_mem (cv.owns.subset ho)
    obtain ⟨o', s1, s2, _⟩ := ty.own h1
    rw [h2] at s1
    cases s1
    rw [z, e4] at s2
    cases s2
  have nd := owns_nodup_set (i := i) (d := .lst (as'.map .adr)) (o := p) tB.nd fun z => nin p ((owns_set_sub (g := .no) (v := none) i (fun _ z => nomatch z)).subset z) rfl
  have sl := tB.sl.set i (g := .ow (.lst (as'.map .adr))) (v := some (.ref p)) ⟨p, rfl, keepF_new e4 f0, ty.wf.nm e4, vs, by rw [hp]; exact ty.wf.fh _ _ e4, by
    rw [hr F vs e5]
    clear nd
    generalize as' = l
    induction l with
    | nil => simp [RpL]
    | cons x l ih => rw [List.map_cons, List.map_cons]; simp only [RpL]; exact ⟨_, _, rfl, by simp only [Rp], ih⟩⟩
  have fr : ∀ o ∈ VS.owns (B.set i (.ow (.lst (as'.map .adr)))) (σ.set i (some (.ref p))), H0 o = none := fun o ho => by
    rcases owns_set_own i o ho with e | e
    · rw [e]; exact h0
    · exact bB.fresh o e
  rw [eσ] at nd sl fr
  exact ⟨⟨tB.wf, sl, nd⟩, ⟨bB.ext, fr, bB.z⟩⟩
end
end VS
set_option Elab.async false
set_option linter.all false
set_option maxRecDepth 100000
/-! f(e, .., k = v), k keyword-only; data without its places -/
namespace VS
open PySem PySem.Spec L2
section
variable {X : Cx} {R : Reg} {G : List Sl} {pos : Pos} {k : Kt}
end
mutual
/-- without places -/
def er : Dt → Dt
  | .tup xs => .tup (erL xs)
  | .lst xs => .lst (erL xs)
  | .frl xs => .frl (erL xs)
  | .dT ks xs => .dT ks (erL xs)
  | .dK ks xs => .dK ks (erL xs)
  | .obj C ns xs => .obj C ns (erL xs)
  | .exv a ns xs d => .exv a ns (erL xs) d
  | .at_ _ d => er d
  | .non => .non
  | .bl b => .bl b
  | .int i => .int i
  | .str x => .str x
  | .ty n => .ty n
  | .adr a => .adr a
  | .key ks => .key ks
def erL : List Dt → List Dt
  | [] => []
  | x :: xs => er x :: erL xs
end
section
variable {K : PySem.W.Frag} {F : Hp}
mutual
theorem rp_er : ∀ {d : Dt} {v : V}, Rp K F d v → Rp K F (er d) v
  | .non, _, h => by simp only [Rp, er] at h ⊢; exact h
  | .bl _, _, h => by simp only [Rp, er] at h ⊢; exact h
  | .int _, _, h => by simp only [Rp, er] at h ⊢; exact h
  | .str _, _, h => by simp only [Rp, er] at h ⊢; exact h
  | .ty _, _, h => by simp only [Rp, er] at h ⊢; exact h
  | .adr _, _, h => by simp only [Rp, er] at h ⊢; exact h
  | .key ks, _, h => by simp only [Rp, er] at h ⊢; exact h
  | .tup xs, _, h => by
    simp only [Rp, er] at h ⊢
    obtain ⟨a, vs, h1, h2, h3⟩ := h
    exact ⟨a, vs, h1, h2, rpL_er h3⟩
  | .lst xs, _, h => by
    simp only [Rp, er] at h ⊢
    obtain ⟨a, vs, h1, h2, h3⟩ := h
    exact ⟨a, vs, h1, h2, rpL_er h3⟩
  | .frl xs, _, h => by
    simp only [Rp, er] at h ⊢
    obtain ⟨a, vs, h1, h2, h3⟩ := h
    exact ⟨a, vs, h1, h2, rpL_er h3⟩
  | .dT ks xs, _, h => by
    simp only [Rp, er] at h ⊢
    obtain ⟨a, vs, h1, h2, h4, h3⟩ := h
    exact ⟨a, vs, h1, h2, h4, rpL_er h3⟩
  | .dK ks xs, _, h => by
    simp only [Rp, er] at h ⊢
    obtain ⟨a, vs, h1, h2, h4, h3⟩ := h
    exact ⟨a, vs, h1, h2, h4, rpL_er h3⟩
  | .obj C ns xs, _, h => by
    simp only [Rp, er] at h ⊢
    obtain ⟨a, dx, vs, h1, h2, h4, h3⟩ := h
    exact ⟨a, dx, vs, h1, h2, h4, rpL_er h3⟩
  | .exv a ns xs d, _, h => by
    simp only [Rp, er] at h ⊢
    refine ⟨h.1, fun dx hd => ?_⟩
    obtain ⟨vs, h1, h2, h3⟩ := h.2 dx hd
    exact ⟨vs, h1, h2, rpL_er h3⟩
  | .at_ a d, _, h => by
    simp only [Rp] at h
    simp only [er]
    exact rp_er h.2
theorem rpL_er : ∀ {ds : List Dt} {vs : List V}, RpL K F ds vs → RpL K F (erL ds) vs
  | [], _, h => by simp only [RpL, erL] at h ⊢; exact h
  | d :: ds, _, h => by
    simp only [RpL, erL] at h ⊢
    obtain ⟨v, r, h1, h2, h3⟩ := h
    exact ⟨v, r, h1, rp_er h2, rpL_er h3⟩
end
end
/-- rows with their places -/
def rowsA (ps : List (Addr × Dt)) : List Dt := ps.map fun p => .at_ p.1 p.2
end VS
set_option Elab.async false
set_option linter.all false
set_option maxRecDepth 100000
/-! the ring's class, as the head looks at it -/
namespace VS
open PySem PySem.Spec L2
def ringB (K : PySem.W.Frag) (C : Addr) : Bool := clsC K C && (decide (PySem.W.findIn K (.ref C) "rows" = some none) && (decide (PySem.W.findIn K (.ref C) "start" = some none) && (tyB K C && (decide (PySem.W.kitOne K (.ref C) (.ref C) = some true) && notB K C))))
/-- Poly as a class that is made and read, its operators aside -/
def polymB (K : PySem.W.Frag) (C : Addr) : Bool := clsC K C && (decide (PySem.W.findIn K (.ref C) "coefs" = some none) && (tyB K C && (decide (PySem.W.kitOne K (.ref C) (.ref C) = some true) && notB K C)))
end VS
set_option Elab.async false
set_option linter.all false
set_option maxRecDepth 100000
set_option maxHeartbeats 2000000
/-! a class called with one keyword-only argument: C(e, .., k = v) -/
namespace L2
open PySem PySem.Spec PyProof.Rows
section
variable {X : Cx} {CX : CXT} {k n : Nat} {f C : Addr} {fd : FuncData} {ps ks : List Str} {sp : Sp} {E : XK} {x : Str} {p pos : Pos} {e : Expr} {es : List Expr} {kws : List Keyword} {tv : TE} {t tk : TA} {g : List Value → List Value → List Value} {gV : List V → List V → List V}
end
end L2
namespace VS
open PySem PySem.Spec L2
structure FnCK (P : Program) (w : World) (K : PySem.W.Frag) (mg : Str → Option Value) (base : Heap) (k : Nat) (n : Nat) (ks : List Str) (C : Addr) (φ : Ph) : Prop where
  ex : ∃ i fI fd ps g, i + 1 ≤ k ∧ Mk K C fI ∧ KBn K fd ps (n + 1) ks g (fun vs zs => vs ++ zs) ∧ FnOk P w K mg base (L2N.CX P w) i fI fd ps (spIni K C (n + ks.length) φ)
theorem FnCK.mono {P : Program} {w : World} {K : PySem.W.Frag} {mg : Str → Option Value} {base : Heap} {j k : Nat} {n : Nat} {ks : List Str} {C : Addr} {φ : Ph} (F : FnCK P w K mg base j n ks C φ) (h : j ≤ k) : FnCK P w K mg base k n ks C φ := by
  obtain ⟨i, fI, fd, ps, g, z, a, b, c⟩ := F.ex
  exact ⟨i, fI, fd, ps, g, Nat.le_trans z h, a, b, c⟩
section
variable {X : Cx} {R : Reg} {G : List Sl} {pos : Pos} {k : Kt}
end
/-- the facts of class Ring -/
structure RingC (K : PySem.W.Frag) (C : Addr) : Prop where
  cl : Cls K C
  na_rows : NoAttr K C "rows"
  na_start : NoAttr K C "start"
  ty : ∀ ns xs, TyD K (.obj C ns xs) (.ref C)
  self : PySem.W.kitOne K (.ref C) (.ref C) = some true
  no : ∀ T, T ∈ plainT → PySem.W.kitOne K (.type T) (.ref C) = some false ∧ PySem.W.notFirst K C (.type T) = true
/-- the facts of class Poly, its operators aside -/
structure PolymC (K : PySem.W.Frag) (C : Addr) : Prop where
  cl : Cls K C
  na_coefs : NoAttr K C "coefs"
  ty : ∀ ns xs, TyD K (.obj C ns xs) (.ref C)
  self : PySem.W.kitOne K (.ref C) (.ref C) = some true
  no : ∀ T, T ∈ plainT → PySem.W.kitOne K (.type T) (.ref C) = some false ∧ PySem.W.notFirst K C (.type T) = true
end VS
set_option Elab.async false
set_option linter.all false
set_option maxRecDepth 100000
set_option maxHeartbeats 2000000
/-! a class called with one keyword-only argument, whose __init__ may raise -/
namespace L2
open PySem PySem.Spec PyProof.Rows
def tMakeKS (C : Addr) (n m : Nat) (sp : Sp) (gV : List V → List V → List V) (E : St → XK) (t tk : TA) : TE := fun σ H Q => t σ H fun vs H1 => tk σ H1 fun zs H2 => vs.length = n ∧ zs.length = m ∧ ∀ x dx, H2 x = none → H2 dx = none → dx ≠ x →
  sp (gV (.ref x :: vs) zs) (upd (upd H2 dx (.own x)) x (.ins C dx [])) (fun v H3 => v = .non ∧ Q (.ref x) H3) (E σ)
section
variable {X : Cx} {CX : CXT} {k n : Nat} {f C : Addr} {fd : FuncData} {ps ks : List Str} {sp : Sp} {E : St → XK} {x : Str} {p pos : Pos} {e : Expr} {es : List Expr} {kws : List Keyword} {tv : TE} {t tk : TA} {g : List Value → List Value → List Value} {gV : List V → List V → List V}
end
end L2
namespace VS
open PySem PySem.Spec L2
section
variable {X : Cx} {R : Reg} {G : List Sl} {pos : Pos} {k : Kt} {W : WX}
end
def cvalB (K : PySem.W.Frag) (C : Addr) (f : Str) (i : Int) : Bool := match PySem.W.findCls K (.ref C) (.type "type") f with
  | some (.val (.int j _)) => decide (j = i)
  | _ => false
/-! __init__ that may raise -/
section
variable {P : Program} {w : World} {K : PySem.W.Frag} {mg : Str → Option Value} {base : Heap}
theorem ini_runX {CX : CXT} {N : List Str} {C : Addr} {m : Nat} {φ : Ph} {vs : List V} {H : Hp} {Q : VK} {E : XK} {X : Cx} {body : List Stmt} (hh : spIni K C m φ vs H Q E) (hK : X.K = K)
    (h : ∀ (x : Addr) (ds : List Dt) (q : Dt → Prop) (xd : XD), φ ds q xd → ds.length = m → S X (Reg.nil.wX X.K (fun _ => xd) (fun cls d _ H => E cls d H)) body (stI N x C ds) { nx := fun G => ∃ d G', G = .ow (.at_ x d) :: G' ∧ q d, rt := fun _ => False }) :
    ∃ t, PSs X body t ∧ t { nx := fun _ H' => Q .non H', rt := Q } (L2.start N vs) H := by
  obtain ⟨hl, x, dx, args, F0, H0, F, ds, q, xd, rfl, sf, ex, h0, fx, hx, r, hφ, hq, hxo⟩ := hh
  subst hK
  have hl' : args.length = m := by simpa using hl
  have hS := h x ds q xd hφ (by rw [r.length, hl'])
  refine ⟨_, pss_w, hS F0 H0 _ F H _ ⟨ex.wf.wX, ?_, ?_⟩ ⟨ex.wX, ?_, ?_⟩ ⟨fun G σ F1 H1 z ty b => ?_, fun d v F1 H1 z e rd => z.elim, fun _ _ _ _ z => z.elim, fun _ _ _ _ z => z.elim, fun _ _ _ _ z => z.elim⟩⟩
  · unfold stI L2.start
    show SlsOk _ _ _ _ _ (some (V.ref x) :: (args.map some ++ List.replicate (N.length - (args.length + 1)) none))
    refine .cons ⟨x, rfl, fx, fun z => z.elim, rfl, dx, [], hx, rfl, .nil⟩ ?_
    rw [r.length]
    exact sls0 _ r
  · unfold stI L2.start
    show (owns (_ :: _) (some (V.ref x) :: _)).Nodup
    simp only [owns, owns0]
    simp
  · unfold stI L2.start
    show ∀ o ∈ owns (_ :: _) (some (V.ref x) :: _), _
    simp only [owns, owns0]
    intro o ho
    simp at ho
    rw [ho]
    exact h0
  · intro G σ F1 H1 C ns ds' d hxd ty ex fo dat
    rcases dat with ⟨dx, vs', rfl, e0, _, e1, e2, e3⟩ | ⟨rfl, rfl, rfl⟩
    · exact hxo.1 C ns ds' dx vs' F1 H1 hxd ex e1 e2 e3 e0
    · exact hxo.2 C F1 H1 hxd ex
  · obtain ⟨d, G', rfl, hd⟩ := z
    obtain ⟨F2, ty2, b2, sf2⟩ := ty.frz b
    obtain ⟨v0, e0, y, ey, ry⟩ := ty2.sl.get (i := 0) (g := .sh (.at_ x d)) rfl
    simp only [Rp] at ry
    exact hq F2 H1 d b2.ext.un (by rw [← ry.1]; exact ry.2) hd
theorem iniD_okX {x qual : Str} {st : Stmt} {f C : Addr} {fd : FuncData} {dvs : List V} {kws : List (Str × V)} {N ps : List Str} {k m : Nat} {φ : Ph} (F : FD K x qual st dvs kws f fd) (Sc : FnScope N ps (defScope st)) (hn : m + 1 = ps.length)
    (h : ∀ (X : Cx) (cdv : Value) (A : Around) (outer : List Env) (s : Shared) (H : Hp) (E : XK) (a : Addr) (ds : List Dt) (q : Dt → Prop) (xd : XD), X = cxOf (L2N.CX P w) P w K mg base N qual (defScope st) f cdv A outer s H E → Room k X.A → φ ds q xd → ds.length = m →
      L2N.Takes X (fun cls d _ H => E cls d H) → S X (Reg.nil.wX K (fun _ => xd) (fun cls d _ H => E cls d H)) (defBody st) (stI N a C ds) { nx := fun G => ∃ d G', G = .ow (.at_ a d) :: G' ∧ q d, rt := fun _ => False }) : FnOk P w K mg base (L2N.CX P w) (k + 1) f fd ps (spIni K C m φ) := by
  refine FunD.ok F Sc (fun vs H Q E hh => by rw [hh.1, hn]) fun cdv A outer s H vs Q E hr hh => ?_
  exact ini_runX (CX := L2N.CX P w) hh rfl fun a ds q xd hφ hl => h _ cdv A outer s H E a ds q xd rfl hr hφ hl (L2N.takes_of rfl rfl rfl rfl)
end
end VS
set_option Elab.async false
set_option linter.all false
set_option maxRecDepth 100000
/-! a def that changes the list it is given: the list is the caller's own, its place is told within. -/
namespace VS
open PySem PySem.Spec L2
/-- d without its place -/
def looseD : Dt → Dt
  | .at_ _ d => d
  | d => d
section
variable {X : Cx} {R : Reg} {G : List Sl} {pos : Pos} {k : Kt}
end
/-! ### the promise -/
/-- what may change: the list at a -/
def lstR (a : Addr) : Reg := ⟨fun x => x = a, fun _ => True, fun _ _ _ _ => trivial, fun _ _ => True, fun _ _ _ _ _ _ => trivial⟩
def spL (K : PySem.W.Frag) (n : Nat) (φ : Ph) : Sp := fun vs H Q _ => vs.length = n ∧ ∃ a xs ws us F ds q, vs = .ref a :: us ∧ Wf (lstR a) F H ∧ H a = some (.lst ws) ∧ RpL K F xs ws ∧ RpL K F ds us ∧ φ (.lst xs :: ds) q (fun _ _ _ => False) ∧
  ∀ F' H' xs' ws', Ext (lstR a) F H F' H' → H' a = some (.lst ws') → RpL K F' xs' ws' → q (.lst xs') → Q .non H'
/-- the slots of such a def at its start -/
def st0L (N : List Str) (a : Addr) (xs ds : List Dt) : List Sl := .ow (.at_ a (.lst xs)) :: (ds.map .sh ++ List.replicate (N.length - (ds.length + 1)) .no)
section
variable {P : Program} {w : World} {K : PySem.W.Frag} {mg : Str → Option Value} {base : Heap}
end
section
variable {X : Cx} {R : Reg} {G : List Sl} {pos : Pos} {k : Kt}
end
end VS
set_option Elab.async false
set_option linter.all false
set_option maxRecDepth 100000
/-! a class made of one's own list and dict: they stay one's own. -/
namespace VS
open PySem PySem.Spec L2
/-- what is not told of: the things at a and b -/
def twoR (a b : Addr) : Reg := ⟨fun x => x = a ∨ x = b, fun _ => True, fun _ _ _ _ => trivial, fun _ _ => True, fun _ _ _ _ _ _ => trivial⟩
/-- the list at a, the dict at b -/
structure Two (K : PySem.W.Frag) (a b : Addr) (xs : List Dt) (ks : List (List Key)) (ys : List Dt) (F H : Hp) : Prop where
  l : ∃ ws, H a = some (.lst ws) ∧ RpL K F xs ws
  d : ∃ us, H b = some (.dT (ks.zip us)) ∧ ks.length = us.length ∧ RpL K F ys us
theorem Two.ne {K : PySem.W.Frag} {a b : Addr} {xs : List Dt} {ks : List (List Key)} {ys : List Dt} {F H : Hp} (t : Two K a b xs ks ys F H) : a ≠ b := fun e => by
  obtain ⟨ws, h1, _⟩ := t.l
  obtain ⟨us, h2, _⟩ := t.d
  rw [e, h2] at h1
  cases h1
/-- a class's promise: made of a value, one's own list and one's own dict -/
def spP (K : PySem.W.Frag) (φ : Ph) : Sp := fun vs H Q _ => vs.length = 3 ∧ ∃ v0 a b d0 xs ks ys F q, vs = [v0, .ref a, .ref b] ∧ Wf (twoR a b) F H ∧ Rp K F d0 v0 ∧ Two K a b xs ks ys F H ∧ φ [d0, .lst xs, .dT ks ys] q (fun _ _ _ => False) ∧
  ∀ v F' H' d, Ext (twoR a b) F H F' H' → Two K a b xs ks ys F' H' → Rp K F' d v → q d → Q v H'
def spIniP (K : PySem.W.Frag) (C : Addr) (φ : Ph) : Sp := fun vs H Q _ => vs.length = 4 ∧ ∃ x dx v0 a b d0 xs ks ys F0 H0 F q, vs = [.ref x, v0, .ref a, .ref b] ∧ Wf (twoR a b) F0 H0 ∧ Ext (twoR a b) F0 H0 F H ∧ H0 x = none ∧ F x = none ∧ H x = some (.ins C dx []) ∧ Rp K F d0 v0 ∧ Two K a b xs ks ys F H ∧ φ [d0, .lst xs, .dT ks ys] q (fun _ _ _ => False) ∧
  ∀ F' H' d, Ext (twoR a b) F0 H0 F' H' → Two K a b xs ks ys F' H' → Rp K F' d (.ref x) → q d → Q .non H'
def stP (N : List Str) (x C a b : Addr) (d0 : Dt) (xs : List Dt) (ks : List (List Key)) (ys : List Dt) : List Sl := .ow (.at_ x (.obj C [] [])) :: .sh d0 :: .ow (.at_ a (.lst xs)) :: .ow (.at_ b (.dT ks ys)) :: List.replicate (N.length - 4) .no
theorem Two.ext {K : PySem.W.Frag} {a b : Addr} {xs : List Dt} {ks : List (List Key)} {ys : List Dt} {F H F' H' : Hp} (t : Two K a b xs ks ys F H) (ff : Same F F') (ha : H' a = H a) (hb : H' b = H b) : Two K a b xs ks ys F' H' := by
  obtain ⟨ws, h1, r1⟩ := t.l
  obtain ⟨us, h2, l2, r2⟩ := t.d
  exact ⟨⟨ws, by rw [ha]; exact h1, r1.mono ff⟩, us, by rw [hb]; exact h2, l2, r2.mono ff⟩
section
variable {P : Program} {w : World} {K : PySem.W.Frag} {mg : Str → Option Value} {base : Heap}
/-- a class called so -/
structure FnCP (P : Program) (w : World) (K : PySem.W.Frag) (mg : Str → Option Value) (base : Heap) (k : Nat) (x : Str) (φ : Ph) : Prop where
  ex : ∃ f : Addr, mg x = some (.ref f) ∧ PySem.W.keepIn K (.ref f) = true ∧ FnR P w K mg base (L2N.CX P w) k f (spP K φ)
theorem FnCP.mono {x : Str} {φ : Ph} {j k : Nat} (F : FnCP P w K mg base j x φ) (h : j ≤ k) : FnCP P w K mg base k x φ := by
  obtain ⟨f, a, b, c⟩ := F.ex
  exact ⟨f, a, b, c.mono h⟩
end
section
variable {X : Cx} {R : Reg} {G : List Sl} {pos : Pos} {k : Kt}
end
end VS
set_option Elab.async false
set_option linter.all false
set_option maxRecDepth 100000
/-! a list or a tuple -/
namespace VS
open PySem PySem.Spec L2
def LorT (ld : Dt) (l : List Dt) : Prop := ld = .lst l ∨ ld = .tup l
section
variable {X : Cx} {R : Reg} {ld : Dt} {l : List Dt} {P : Dt → Prop}
theorem wc_len_ld (h : LorT ld l) (p : P (.int (l.length : Int))) : WC X R (.builtin "len") [ld] P := by
  rcases h with rfl | rfl
  · exact wc_len_lst p
  · exact wc_len_tup p
theorem wi_ld {i : Int} {d : Dt} (h : LorT ld l) (hi : atI l i = some d) (p : P d) : WI X R ld (.int i) P := by
  rcases h with rfl | rfl
  · exact wi_lst hi p
  · exact wi_tup hi p
theorem wc_tuple_ld (h : LorT ld l) (p : P (.tup l)) : WC X R (.type "tuple") [ld] P := by
  rcases h with rfl | rfl
  · exact wc_tuple_lst p
  · exact wc_tuple_tup p
theorem wc_list_ld (h : LorT ld l) (p : P (.lst l)) : WC X R (.type "list") [ld] P := by
  rcases h with rfl | rfl
  · exact wc_list_lst p
  · exact wc_list_tup p
end
/-! promises of Table over a list or a tuple of looks -/
def ph_check_tableL : Ph := fun ds q _ => ∃ lim looks rl ld, ds = [.int (lim : Nat), ld, dA .str rl] ∧ (Vr lim looks rl ∧ LorT ld (looks.map .int)) ∧ q .non
def ph_Table___init__L (C : Addr) : Ph := fun ds q _ => ∃ lim looks rl ld, ds = [.int (lim : Nat), ld, dA .str rl] ∧ (Vr lim looks rl ∧ LorT ld (looks.map .int)) ∧ q (tabD C (mkT lim looks rl))
end VS
set_option Elab.async false
set_option linter.all false
set_option maxRecDepth 100000
set_option maxHeartbeats 2000000
/-! list(d.items()), d a dict with tuple keys -/
namespace VI
open PySem PySem.Spec PyProof.Rows L2
/-- the entries as tuples -/
def ItAt (H : Hp) : List (List Key × V) → List V → Prop := Paired fun p x => ∃ a k, x = .ref a ∧ H a = some (.tup [.ref k, p.2]) ∧ H k = some (.tup (p.1.map kV))
/-- new tuples, nothing else -/
structure Tups (H H2 : Hp) : Prop where
  same : ∀ a u, H a = some u → H2 a = some u
  new : ∀ a, H a = none → H2 a = none ∨ ∃ xs, H2 a = some (.tup xs)
def tListItemsT (te : TE) : TE := fun σ H Q => te σ H fun x H1 => ∃ (d : Addr) (kvs : List (List Key × V)), x = .ref d ∧ Rd H1 d (.dT kvs) ∧ ∀ q xs H2, Tups H1 H2 → H1 q = none → H2 q = none → ItAt H2 kvs xs → Q (.ref q) (upd H2 q (.lst xs))
theorem lookup_zip {as : List Addr} {its : List HO} (hp : as.Pairwise (· < ·)) {j : Nat} {a : Addr} {u : HO} (h1 : as[j]? = some a) (h2 : its[j]? = some u) : (as.zip its).lookup a = some u := by
  induction as generalizing its j with
  | nil => simp at h1
  | cons b as ih =>
    cases its with
    | nil => simp at h2
    | cons v its =>
      rw [List.zip_cons_cons, List.lookup_cons]
      cases j with
      | zero =>
        cases h1
        cases h2
        simp
      | succ j =>
        have h1' : as[j]? = some a := by simpa using h1
        have hlt := (List.pairwise_cons.mp hp).1 a (List.mem_of_getElem? h1')
        rw [show (a == b) = false from by rw [beq_eq_false_iff_ne]; exact Ne.symm (Nat.ne_of_lt hlt)]
        exact ih (List.pairwise_cons.mp hp).2 h1' (by simpa using h2)
theorem lookup_out {as : List Addr} {its : List HO} {a : Addr} (h : a ∉ as) : (as.zip its).lookup a = none := by
  induction as generalizing its with
  | nil => rfl
  | cons b as ih =>
    cases its with
    | nil => rfl
    | cons v its =>
      rw [List.zip_cons_cons, List.lookup_cons, show (a == b) = false from by rw [beq_eq_false_iff_ne]; exact fun e => h (e ▸ List.mem_cons_self)]
      exact ih fun z => h (List.mem_cons_of_mem _ z)
theorem paired_at {α β : Type} {F : α → β → Prop} : ∀ {l : List α} {m : List β}, l.length = m.length → (∀ (j : Nat) (a : α) (b : β), l[j]? = some a → m[j]? = some b → F a b) → Paired F l m
  | [], [], _, _ => .nil
  | [], _ :: _, h, _ => by simp at h
  | _ :: _, [], h, _ => by simp at h
  | a :: l, b :: m, h, f => .cons (f 0 a b rfl rfl) (paired_at (by simpa using h) fun j x y h1 h2 => f (j + 1) x y (by simpa using h1) (by simpa using h2))
theorem lays {X : Cx} {pins : List (Addr × Obj)} {σ : L2.St} {H H' : Hp} {s : Shared} {h' : Heap} {t' : Nat} (I : Inv X pins σ H s) (k : ∀ b u, s.heap.get? b = some u → h'.get? b = some u) (same : ∀ b u, H b = some u → H' b = some u) (low : ∀ b, b < s.heap.objs.size → H' b = H b)
    (new : ∀ b u, H b = none → H' b = some u → ObjOk X.prog X.w H' h' b u) : Inv X pins σ H' { s with heap := h', toks := t' } := by
  have lt : ∀ b o, s.heap.get? b = some o → b < s.heap.objs.size := fun b o q => Heap.lt_size q
  refine I.un ⟨fun b o q _ _ _ => k b o q, fun b o q n _ _ => ⟨o.slots, k b o q⟩, fun b o q n _ => by rw [low b (lt b o q)]; exact n, fun b o q _ => ⟨o, k b o q⟩, fun b xs q => same b _ q, fun b o u q => same b _ q, fun b ps q => ⟨#[], by simpa using same b _ q⟩⟩ ?_
  intro b u e
  cases hb : H b with
  | none => exact new b u hb e
  | some u' =>
    have := same b u' hb
    rw [e] at this
    cases this
    exact (I.hok b u hb).stay (fun c v _ q => k c v q) (fun c q => same c _ q) fun c xs q => same c _ q
section
variable {X : Cx} {e : Expr} {te : TE} {p apos cpos pos : Pos}
/-- list(view of a dict's entries), where it is called -/
def CallOk (prog : Program) (w : World) (A : Around) (s : Shared) : Prop := ∀ (r d : Addr) (es : Array DictEntry) (ep : Nat) (Q : Value → Shared → Prop) (E : Value → Shared → Prop), s.heap.IsItemsView r d → s.heap.DictRaw d es ep → es.size ≤ sizeLine →
  (∀ h' tk acc c as, (∀ b o, s.heap.get? b = some o → h'.get? b = some o) → h'.get? s.heap.objs.size = some { cls := .type "list", dict := none, data := .seq acc c, slots := #[] } → as.length = es.size → PySem.W.DilG es s.heap.objs.size h' as → acc.toList = as.map Value.ref → Q (.ref s.heap.objs.size) { s with heap := h', toks := tk }) →
  wpAny (model prog w) A (call (.type "list") [.ref r]) Q E s
theorem pe_listItemsT (hcall : ∀ (pins : List (Addr × Obj)) (σ : L2.St) (H : Hp) (s : Shared), Inv X pins σ H s → CallOk X.prog X.w X.A s) (he : PE X e te) (hg : Gl X "list") (hm : X.mg "list" = none) (hv : bootBuiltins "list" = some (.type "list")) (hbase : attributeBase e "items" X.env (eval e X.env) = eval e X.env := by rfl) (hline : (apos.endLine == cpos.line) = true := by rfl)
    (hs : starEach [.Call (.Attribute e "items" apos) [] [] cpos] X.env = (false, eval (.Call (.Attribute e "items" apos) [] [] cpos) X.env) :: starEach [] X.env := by rfl) :
    PE X (.Call (.Name "list" p) [.Call (.Attribute e "items" apos) [] [] cpos] [] pos) (tListItemsT te) := by
  refine ⟨fun pins s σ H Q I hq => ?_⟩
  refine wpAny_Call_Name_kw (ld_blt I hg hm hv ?_)
  refine PyProof.Rows.callWith_type1 ?_ hs rfl
  rw [hs]
  show wpAny _ _ (spliced ((false, eval (.Call (.Attribute e "items" apos) [] [] cpos) X.env) :: backTo pos (starEach [] X.env))) _ _ s
  refine Calls.spliced_cons ?_
  refine wpAny_Call_method (T := "dict") (id := "dict.items") hbase rfl hline F.plainAttrs_dict F.slot_dict_items F.type_dict_items (thn (he.run pins s σ H _ I hq) fun u s1 ⟨x, H1, I1, rx, d, kvs, ex, hd, q⟩ => ?_)
  subst ex
  obtain rfl : u = Value.ref d := rx
  obtain ⟨z, hs0, ks, pr, o, es, ep, ho, hx, hdt, hen, hn⟩ := (show ObjOk X.prog X.w H1 s1.heap d (.dT kvs) from hd.ok I1.hok)
  have l1 : es.size = ks.length := size_of_entries hen
  have l2 : kvs.length = ks.length := Paired.length pr
  have raw : s1.heap.DictRaw d es ep := ⟨o, ho, hx, hdt⟩
  refine ⟨raw.typeIs, fun a e => by cases e; exact ⟨o, ho, hx.2.1⟩, ?_⟩
  have I2 : Inv X pins σ H1 { s1 with heap := s1.heap.push { cls := .type "dict_items", data := .fields #[.ref d] } } := I1.kept (t' := s1.toks) fun b ob q => Heap.get?_push_of_some _ q
  show wpAny _ _ (callWith cpos (.builtin "dict.items") [.ref d] [] []) _ X.xe s1
  refine method_meetsIn F.slot_dict_items F.entry_dict_items rfl (PySem.evalArgs_none ⟨rfl, raw.typeIs, F.args_dict_items_1 _, _, meets_dict_items_raw d hs0, ⟨es, ep, raw⟩, ?_⟩)
  refine Calls.spliced_nil ?_
  refine hcall pins σ H1 _ I2 _ d es ep _ _ ⟨_, Heap.get?_push_size _ rfl, rfl, rfl⟩ (raw.push _) (by omega) fun h' tk acc c as kp hS hl hG hacc => ?_
  -- the pairs as they are told
  have lt : ∀ b ob, s1.heap.get? b = some ob → b < s1.heap.objs.size := fun b ob q => Heap.lt_size q
  obtain ⟨its, hits⟩ : ∃ its : List HO, its = List.zipWith (fun (p : List Key × V) (q : List Key × Addr × Value) => HO.tup [.ref q.2.1, p.2]) kvs ks := ⟨_, rfl⟩
  have hil : its.length = as.length := by rw [hits, List.length_zipWith]; omega
  have hat : ∀ (j : Nat) (a : Addr), as[j]? = some a → ∃ p q, kvs[j]? = some p ∧ ks[j]? = some q ∧ its[j]? = some (.tup [.ref q.2.1, p.2]) ∧ H1 q.2.1 = some (.tup (p.1.map kV)) ∧ RelV p.2 q.2.2 ∧ ∃ hj : j < es.size, es[j].key = .ref q.2.1 ∧ es[j].val = q.2.2 := fun j a ha => by
    have hj : j < as.length := (List.getElem?_eq_some_iff.mp ha).1
    have hk : j < kvs.length := by omega
    obtain ⟨b, hb, e1, e2, e3⟩ := paired_get pr (List.getElem?_eq_getElem hk)
    refine ⟨kvs[j], b, List.getElem?_eq_getElem hk, hb, by rw [hits, List.getElem?_zipWith, List.getElem?_eq_getElem hk, hb], e2, e3, by omega, ?_⟩
    have qe := entry_at hen j
    rw [hb, Array.getElem?_eq_getElem (by omega)] at qe
    have e4 := Option.some.inj qe
    rw [e4]
    exact ⟨rfl, rfl⟩
  have low : ∀ a ∈ as, (s1.heap.push { cls := .type "dict_items", data := .fields #[.ref d] }).objs.size < a := fun a ha => hG.above a ha
  have lowS : ∀ a ∈ as, s1.heap.objs.size ≤ a := fun a ha => by
    have := low a ha
    rw [Heap.size_push] at this
    omega
  obtain ⟨S, hSe⟩ : ∃ S, S = (s1.heap.push { cls := .type "dict_items", data := .fields #[.ref d] }).objs.size := ⟨_, rfl⟩
  have hSs : s1.heap.objs.size ≤ S := by rw [hSe, Heap.size_push]; omega
  have hSn : S ∉ as := fun z => Nat.lt_irrefl _ (hSe ▸ low S z)
  have fr : ∀ b, s1.heap.objs.size ≤ b → H1 b = none := fun b hb => I1.hok.fresh hb
  obtain ⟨H2, hH2⟩ : ∃ H2 : Hp, H2 = fun b => ((as.zip its).lookup b).or (H1 b) := ⟨_, rfl⟩
  have in2 : ∀ (j : Nat) (a : Addr) (u : HO), as[j]? = some a → its[j]? = some u → H2 a = some u := fun j a u h1 h2 => by rw [hH2]; show ((as.zip its).lookup a).or _ = _; rw [lookup_zip hG.rise h1 h2]; rfl
  have out2 : ∀ a, a ∉ as → H2 a = H1 a := fun a h => by rw [hH2]; show ((as.zip its).lookup a).or _ = _; rw [lookup_out h]; rfl
  have tp : Tups H1 H2 := by
    refine ⟨fun a u h => ?_, fun a h => ?_⟩
    · rw [out2 a fun z => by rw [fr a (lowS a z)] at h; cases h]; exact h
    · by_cases z : a ∈ as
      · obtain ⟨j, hj⟩ := List.mem_iff_getElem?.mp z
        obtain ⟨p, q, _, _, h3, _⟩ := hat j a hj
        exact .inr ⟨_, in2 j a _ hj h3⟩
      · exact .inl (by rw [out2 a z]; exact h)
  have S2 : H2 S = none := by rw [out2 S hSn]; exact fr S hSs
  have it : ItAt H2 kvs (as.map V.ref) := paired_at (by rw [List.length_map]; omega) fun j p x h1 h2 => by
    rw [List.getElem?_map] at h2
    cases ha : as[j]? with
    | none => rw [ha] at h2; cases h2
    | some a =>
      rw [ha] at h2
      cases h2
      obtain ⟨p', q, k1, k2, k3, k4, _⟩ := hat j a ha
      rw [h1] at k1
      cases k1
      exact ⟨a, _, rfl, in2 j a _ ha k3, tp.same _ _ k4⟩
  have hz : (as.map V.ref).length ≤ sizeLine := by rw [List.length_map]; omega
  have hm2 : ∀ b, b ≠ S → upd H2 S (.lst (as.map V.ref)) b = H2 b := fun b h => upd_ne h
  refine ⟨.ref S, upd H2 S (.lst (as.map V.ref)), ?_, by rw [hSe]; rfl, q S _ H2 tp (fr S hSs) S2 it⟩
  refine lays I2 (fun b u q => kp b u q) (fun b u h => ?_) (fun b h => ?_) fun b u h1 h2 => ?_
  · rw [hm2 b fun e => by rw [e, fr S hSs] at h; cases h]
    exact tp.same b u h
  · have hb : b ∉ as := fun z => Nat.lt_irrefl _ (Nat.lt_trans h (low b z))
    rw [hm2 b fun e => by rw [e, hSe] at h; exact Nat.lt_irrefl _ h, out2 b hb]
  · by_cases e : b = S
    · subst e
      rw [upd_same] at h2
      cases h2
      refine ⟨hz, acc.toList, c, ?_, by rw [Array.toArray_toList, hSe]; exact hS⟩
      rw [hacc]
      exact vals_of_at (by rw [List.length_map, List.length_map]) fun j x w h1 h2 => by
        rw [List.getElem?_map] at h1 h2
        cases ha : as[j]? with
        | none => rw [ha] at h1; cases h1
        | some a => rw [ha] at h1 h2; cases h1; cases h2; rfl
    · rw [hm2 b e] at h2
      have hb : b ∈ as := Classical.byContradiction fun z => by rw [out2 b z, h1] at h2; cases h2
      obtain ⟨j, hj⟩ := List.mem_iff_getElem?.mp hb
      obtain ⟨p, q, _, _, k3, _, k5, hje, k6, k7⟩ := hat j b hj
      rw [in2 j b _ hj k3] at h2
      cases h2
      obtain ⟨_, hg⟩ := hG.pairs j b hj
      rw [k6, k7] at hg
      exact ⟨by show 2 ≤ sizeLine; decide, [.ref q.2.1, q.2.2], .cons rfl (.cons k5 .nil), _, hg, rfl, _, rfl⟩
end
end VI
namespace VS
open PySem PySem.Spec L2
/-- the entries become known -/
theorem reveal_items {K : PySem.W.Frag} {R : Reg} {H : Hp} : ∀ {ks : List (List Key)} {ds : List Dt} {vs : List V} {xs : List V} {F : Hp}, ks.length = vs.length → RpL K F ds vs → Wf R F H → VI.ItAt H (ks.zip vs) xs → ∃ F', Ext R F H F' H ∧ RpL K F' (List.zipWith (fun q d => Dt.tup [.tup (q.map keyD), d]) ks ds) xs
  | [], ds, vs, xs, F, hl, r, w, k => by
    rw [List.zip_nil_left] at k
    cases k
    exact ⟨F, Ext.refl w, .nil⟩
  | q :: ks, ds, [], xs, F, hl, r, w, k => by simp at hl
  | q :: ks, ds, v :: vs, xs, F, hl, r, w, k => by
    rw [List.zip_cons_cons] at k
    cases ds with
    | nil => have := r.of_nil; cases this
    | cons d ds =>
      obtain ⟨v', t', e, r1, r2⟩ := r.of_cons
      cases e
      cases k with
      | @cons _ x _ xs' h t =>
        obtain ⟨a, kk, rfl, ha, hk⟩ := h
        obtain ⟨F1, e1, rr1⟩ := reveal_items (K := K) (by simpa using hl) r2 w t
        have e2 := e1.wf.reveal hk
        have e3 := e2.wf.reveal ha
        have e123 := (e1.trans e2).trans e3
        refine ⟨_, e123, .cons ?_ (rr1.mono (e2.ff.trans e3.ff))⟩
        refine rp_tup.mpr ⟨a, _, rfl, .inl (.inl upd_same), .cons ?_ (.cons (r1.mono e123.ff) .nil)⟩
        exact (rp_tup.mpr ⟨kk, _, rfl, .inl (.inl upd_same), rpL_keys q⟩ : Rp K _ (.tup (q.map keyD)) (.ref kk)).mono e3.ff
theorem Tups.ext {R : Reg} {F H H2 : Hp} (w : Wf R F H) (t : VI.Tups H H2) : Ext R F H F H2 := by
  refine ⟨⟨fun a u h => t.same a u (w.fh a u h), w.off, fun a m => ?_, R.st H _ (fun a u _ h => t.same a u h) w.b⟩, .refl _, fun a u _ h => t.same a u h, fun _ _ h => h⟩
  obtain ⟨u, h1, h2⟩ := w.oc a m
  exact ⟨u, t.same a u h1, h2⟩
section
variable {X : Cx} {R : Reg} {G : List Sl} {pos : Pos} {k : Kt}
/-- list(d.items()), one's own -/
theorem en_listItemsG {e : Expr} {p apos cpos : Pos} {P : List Dt → Prop} (hcall : ∀ (pins : List (Addr × Obj)) (σ : L2.St) (H : Hp) (s : Shared), Inv X pins σ H s → VI.CallOk X.prog X.w X.A s) (hg : Gl X "list") (hm : X.mg "list" = none) (h : E X R G e fun d => ∃ ks xs, d = .dT ks xs ∧ P (List.zipWith (fun q d => Dt.tup [.tup (q.map keyD), d]) ks xs))
    (hbase : attributeBase e "items" X.env (eval e X.env) = eval e X.env := by rfl) (hline : (apos.endLine == cpos.line) = true := by rfl)
    (hs : starEach [.Call (.Attribute e "items" apos) [] [] cpos] X.env = (false, eval (.Call (.Attribute e "items" apos) [] [] cpos) X.env) :: starEach [] X.env := by rfl) : EN X R G (.Call (.Name "list" p) [.Call (.Attribute e "items" apos) [] [] cpos] [] pos) P := fun σ F H Q ty c => by
  refine tOf.of (VI.pe_listItemsT hcall pe_w hg hm b_list hbase hline hs) (h σ F H _ ty fun v F1 H1 d ex r h2 => ?_)
  obtain ⟨ks, xs, rfl, hp⟩ := h2
  obtain ⟨a, vs, rfl, hd, hl, rl⟩ := rp_dT.mp r
  refine ⟨a, ks.zip vs, rfl, rd_mono ex.wf.fh hd, fun q ys H2 tp hq hq2 hk => ?_⟩
  have e1 := Tups.ext ex.wf tp
  obtain ⟨F2, e2, r2⟩ := reveal_items (K := X.K) hl rl e1.wf hk
  have e12 := (ex.trans e1).trans e2
  have hq3 : F2 q = none := e2.wf.fh.free hq2
  exact c q F2 _ _ ys (e12.trans (e2.wf.own hq2)) (ex.free hq) (e2.wf.new hq2) upd_same hq3 r2 hp
/-- the same of counts -/
def itA {α : Type} (f : α → Dt) (m : Al α) : List Dt := m.map fun e => .tup [.tup [.int e.1.1, .int e.1.2], f e.2]
theorem itA_eq {α : Type} (f : α → Dt) : ∀ m : Al α, List.zipWith (fun q d => Dt.tup [.tup (q.map keyD), d]) (keysA m) (m.map fun e => f e.2) = itA f m
  | [] => rfl
  | e :: m => by
    show Dt.tup [.tup ((kk e.1).map keyD), f e.2] :: _ = _
    exact congrArg (List.cons _) (itA_eq f m)
theorem en_listItemsGA {e : Expr} {p apos cpos : Pos} {P : List Dt → Prop} (hcall : ∀ (pins : List (Addr × Obj)) (σ : L2.St) (H : Hp) (s : Shared), Inv X pins σ H s → VI.CallOk X.prog X.w X.A s) (hg : Gl X "list") (hm : X.mg "list" = none) (h : E X R G e fun d => ∃ (α : Type) (f : α → Dt) (m : Al α), d = dA f m ∧ P (itA f m))
    (hbase : attributeBase e "items" X.env (eval e X.env) = eval e X.env := by rfl) (hline : (apos.endLine == cpos.line) = true := by rfl)
    (hs : starEach [.Call (.Attribute e "items" apos) [] [] cpos] X.env = (false, eval (.Call (.Attribute e "items" apos) [] [] cpos) X.env) :: starEach [] X.env := by rfl) : EN X R G (.Call (.Name "list" p) [.Call (.Attribute e "items" apos) [] [] cpos] [] pos) P :=
  en_listItemsG hcall hg hm (fun σ F H Q ty c => h σ F H Q ty fun v F' H' d ex r ⟨α, f, m, e, p⟩ => c v F' H' d ex r ⟨_, _, e, by rw [itA_eq]; exact p⟩) hbase hline hs
theorem call_calm (hc : X.calm = true) : ∀ (pins : List (Addr × Obj)) (σ : L2.St) (H : Hp) (s : Shared), Inv X pins σ H s → VI.CallOk X.prog X.w X.A s := fun _ _ _ _ I r d es ep Q E hv hm hn h => PySem.W.dil_call (I.ok.hd hc) hv hm hn h
theorem en_listItemsA {e : Expr} {p apos cpos : Pos} {P : List Dt → Prop} (hc : X.calm = true) (hg : Gl X "list") (hm : X.mg "list" = none) (h : E X R G e fun d => ∃ (α : Type) (f : α → Dt) (m : Al α), d = dA f m ∧ P (itA f m))
    (hbase : attributeBase e "items" X.env (eval e X.env) = eval e X.env := by rfl) (hline : (apos.endLine == cpos.line) = true := by rfl)
    (hs : starEach [.Call (.Attribute e "items" apos) [] [] cpos] X.env = (false, eval (.Call (.Attribute e "items" apos) [] [] cpos) X.env) :: starEach [] X.env := by rfl) : EN X R G (.Call (.Name "list" p) [.Call (.Attribute e "items" apos) [] [] cpos] [] pos) P := en_listItemsGA (call_calm hc) hg hm h hbase hline hs
end
theorem itA_ok {m : Al Str} (h : ∀ e ∈ m, PyData.strOk e.2 = true) : okD (.lst (itA .str m)) = true := by
  show List.all (itA .str m) (okN 11) = true
  rw [List.all_eq_true]
  intro d hd
  obtain ⟨e, he, rfl⟩ := List.mem_map.mp hd
  show List.all _ (okN 10) = true
  simp only [List.all_cons, List.all_nil, okN, h e he, Bool.and_true]
end VS
set_option Elab.async false
set_option linter.all false
set_option maxRecDepth 100000
set_option maxHeartbeats 4000000
/-! list(d.items()) while an exception is handled -/
namespace VI
open PySem PySem.Spec PyProof.Rows L2 L2H HotX PySem.W
section
variable {prog : Program} {w : World} {A : Around} {E : Value → Shared → Prop} {s : Shared}
/-- the end of a walk over a dict's entries -/
theorem items_end_hot {it d x1 : Addr} {i ep : Nat} {es : Array DictEntry} {f0 f1 ok ov : Value} {Q : Option Value → Shared → Prop} (hot : HotAt A x1 s.heap)
    (hit : s.heap.get? it = some { cls := .type "dict_itemiterator", data := .fields #[f0, f1, .ref d, .int i 0, .int es.size 0, .int ep 0, ok, ov] })
    (hm : s.heap.DictRaw d es ep) (hge : es.size ≤ i) (hQ : ∀ h', Heap.ExtBut it s.heap h' → Q none { s with heap := h' }) : wpAny (model prog w) A (pyNext (.ref it)) Q E s := by
  obtain ⟨hh, o1, vs1, h1, d1, c1⟩ := hot
  obtain ⟨od, hod, _, hdd⟩ := id hm
  have tn : s.TypeIs (.ref it) "dict_itemiterator" := ⟨_, hit, rfl⟩
  have ne : x1 ≠ it := fun z => by
    rw [z, hit] at h1
    cases h1
    cases d1
    cases c1
  unfold pyNext
  refine wpAny_bind (wpAny_attempt (wpAny_callSpecial?_slot (name := Str.ofString "__next__") tn F.slot_dict_itemiterator_next (wpAny_call_entry F.slot_dict_itemiterator_next tn F.entry_dict_itemiterator_next ?_ (F.args_dict_itemiterator_next_1 _))))
  refine wpAny_bind (wpAny_pure ?_); refine wpAny_bind ?_; refine wpAny_bind ?_
  first | refine wpAny_bind (wpAny_typeNameOfWhole_itemiter tn (wpAny_pure ?_)) | refine wpAny_bind (wpAny_typeNameOf_itemiter tn (wpAny_pure ?_))
  refine wpAny_bind (wpAny_fieldsOf hit rfl ?_)
  simp only [show Builtin.Dict_items.ownsTuple "dict_itemiterator" = true from by decide, if_true]
  show wpAny _ _ (if (Value.ref d == Value.none) = true then _ else _) _ _ s
  rw [if_neg (show ¬ ((Value.ref d == Value.none) = true) from Bool.false_ne_true)]
  refine wpAny_bind (wpAny_pure ?_); refine wpAny_bind (wpAny_dictEntries hod hdd ?_); rw [if_neg (by simp)]
  refine wpAny_bind (wpAny_pure ?_); refine wpAny_bind (wpAny_dictEpoch hod hdd ?_); rw [if_neg (by simp)]
  refine wpAny_pure ?_
  simp only [show ¬ ((i : Int) < 0) from by omega, if_false, Int.toNat_natCast, Array.getElem?_eq_none hge]
  refine wpAny_bind ?_
  first | refine wpAny_bind (wpAny_typeNameOfWhole_itemiter tn (wpAny_pure ?_)) | refine wpAny_bind (wpAny_typeNameOf_itemiter tn (wpAny_pure ?_))
  show wpAny _ _ (setField (.ref it) 2 .none >>= _) _ _ s
  refine wpAny_bind (wpAny_setField hit rfl (by simp) ?_)
  show wpAny _ _ (newExc (.type "StopIteration") [] >>= _) _ _ _
  refine wpAny_bind ?_
  simp only [newExc, newTuple]
  refine wpAny_bind (wpAny_newObj_type ?_ (by size_fits))
  refine wpAny_bind (m := firstArgMember _ _) (wpAny_of_eq (a := Value.none) (by first | rfl | (simp only [firstArgMember]; rfl)) ?_)
  refine wpAny_newObj_type ?_ (by size_fits)
  have g1 : (s.heap.update it (Obj.mapFields (·.setIfInBounds 2 Value.none))).get? x1 = some o1 := by rw [Heap.get?_update_other _ _ (Ne.symm ne)]; exact h1
  refine raiseNew_hot ⟨hh, o1, vs1, Heap.get?_push_of_some _ (Heap.get?_push_of_some _ g1), d1, c1⟩ (Nat.ne_of_lt (Heap.lt_size (Heap.get?_push_of_some _ g1))) (Heap.get?_push_size _ rfl) rfl (by first | (simp; done) | (simp; omega) | (simp only [Array.size_append]; simp; omega)) ?_
  refine wpAny_bind (wpAny_isInstance (T := "StopIteration") (b := true) ⟨_, Heap.get?_update_self _ (Heap.get?_push_size _ rfl) rfl, rfl⟩ isSubtype_stop ?_)
  refine wpAny_pure (hQ _ fun b o hb e => ?_)
  have e2 := (Heap.SameBut.update (h := s.heap) (a := it) (f := Obj.mapFields (·.setIfInBounds 2 Value.none))).extBut b o hb e
  rw [Heap.get?_update_other _ _ (Nat.ne_of_gt (Heap.lt_size (Heap.get?_push_of_some _ e2)))]
  exact Heap.get?_push_of_some _ (Heap.get?_push_of_some _ e2)
end
/-- half way: i entries are in the list at S, as tuples at as -/
structure Mid (h0 h : Heap) (S I d : Addr) (es : Array DictEntry) (ep i c : Nat) (acc : Array Value) (as : List Addr) : Prop where
  it : KdxSt h I d S i es.size ep
  dd : h.DictRaw d es ep
  keep : ∀ b o, b ≠ S → b ≠ I → h0.get? b = some o → h.get? b = some o
  lst : h.get? S = some { cls := .type "list", dict := none, data := .seq acc c, slots := #[] }
  eq : acc.toList = as.map Value.ref
  len : as.length = i
  tup : DilG es I h as
  top : I < h.objs.size
section
variable {prog : Program} {w : World} {A : Around} {s : Shared} {R : Result → Shared → Prop} {es : Array DictEntry} {ep : Nat} {S I d x1 : Addr} {h0 : Heap}
theorem Mid.next {h h' : Heap} {i c : Nat} {acc : Array Value} {as : List Addr} (m : Mid h0 h S I d es ep i c acc as) (hSI : S < I) (hSd : d ≠ S) (hId : d ≠ I) (hi : i < es.size) (st : KdxSt h' I d S (i + 1) es.size ep)
    (ht : h'.get? h.objs.size = some { cls := .type "tuple", data := .seq #[es[i].key, es[i].val] }) (kp : ∀ b o, b ≠ I → h.get? b = some o → h'.get? b = some o) :
    ∃ c', Mid h0 (h'.update S (Obj.mapSeq (·.push (Value.ref h.objs.size)))) S I d es ep (i + 1) c' (acc.push (Value.ref h.objs.size)) (as ++ [h.objs.size]) := by
  have ne : S ≠ I := Nat.ne_of_lt hSI
  have l' := kp S _ ne m.lst
  have Slt : S < h.objs.size := Heap.lt_size m.lst
  have up : ∀ b o, b ≠ S → h'.get? b = some o → (h'.update S (Obj.mapSeq (·.push (Value.ref h.objs.size)))).get? b = some o := fun b o hb e => by
    rw [Heap.get?_update_other _ _ (Ne.symm hb)]; exact e
  have tn := up _ _ (Nat.ne_of_gt Slt) ht
  refine ⟨_, st.keep up (Ne.symm ne), m.dd.at fun o e => up d o hSd (kp d o hId e), fun b o h1 h2 e => up b o h1 (kp b o h2 (m.keep b o h1 h2 e)), Heap.get?_update_self _ l' rfl, by rw [Array.toList_push, m.eq, List.map_append]; rfl, by rw [List.length_append, m.len]; rfl, ⟨?_, ?_, ?_⟩, Nat.lt_trans m.top (Heap.lt_size tn)⟩
  · rw [List.pairwise_append]
    exact ⟨m.tup.rise, List.pairwise_singleton _ _, fun a ha b hb => by rw [List.mem_singleton.mp hb]; exact m.tup.there ha⟩
  · intro a ha
    rcases List.mem_append.mp ha with q | q
    · exact m.tup.above a q
    · rw [List.mem_singleton.mp q]; exact m.top
  · intro j b hj
    by_cases q : j < as.length
    · rw [List.getElem?_append_left q] at hj
      obtain ⟨hj', e⟩ := m.tup.pairs j b hj
      have hb := m.tup.above b (List.mem_of_getElem? hj)
      exact ⟨hj', up b _ (Nat.ne_of_gt (Nat.lt_trans hSI hb)) (kp b _ (Nat.ne_of_gt hb) e)⟩
    · have ej : j = i := by
        have := (List.getElem?_eq_some_iff.mp hj).1
        rw [List.length_append, List.length_singleton, m.len] at this
        rw [m.len] at q
        omega
      subst ej
      rw [List.getElem?_append_right (by rw [m.len]; exact Nat.le_refl _), m.len, Nat.sub_self] at hj
      cases hj
      exact ⟨hi, tn⟩
theorem fill_hot {o1 : Obj} {vs1 : Array Value} (hh : A.handled = some (.ref x1)) (g1 : h0.get? x1 = some o1) (d1 : o1.data = .fields vs1) (c1 : vs1[2]? = some .none) (xS : x1 ≠ S) (xI : x1 ≠ I) (hSI : S < I) (hSd : d ≠ S) (hId : d ≠ I) (hn : es.size ≤ sizeLine) (res : Value)
    (hR : ∀ h' tk acc c as, (∀ b o, b ≠ S → b ≠ I → h0.get? b = some o → h'.get? b = some o) → h'.get? S = some { cls := .type "list", dict := none, data := .seq acc c, slots := #[] } → as.length = es.size → DilG es I h' as → acc.toList = as.map Value.ref → R (.ok (.ret res)) { s with heap := h', toks := tk }) :
    ∀ (n i : Nat) (h : Heap) (tk c : Nat) (acc : Array Value) (as : List Addr), n = es.size - i → i ≤ es.size → Mid h0 h S I d es ep i c acc as → codeAny (model prog w) A (.builtin "list.extend.loop" ⟨[.ref S, .ref I, res], []⟩) R { s with heap := h, toks := tk }
  | 0, i, h, tk, c, acc, as, hk, hi, m => by
    have ei : i = es.size := by omega
    have ht : HotAt A.in1 x1 h := ⟨hh, o1, vs1, m.keep x1 o1 xS xI g1, d1, c1⟩
    refine codeAny_builtin PySem.F.entry_extend_loop ?_; rw [Around.under_plainId PySem.F.plain_extend_loop _]
    show wpAny _ A.in1 (pyNext (.ref I) >>= _) _ _ _
    have fin : ∀ h', Heap.ExtBut I h h' → R (.ok (.ret res)) { s with heap := h', toks := tk } := fun h' he => by
      refine hR h' tk acc c as (fun b o p1 p2 e => he b o p2 (m.keep b o p1 p2 e)) (he S _ (Nat.ne_of_lt hSI) m.lst) (by rw [m.len, ei]) ⟨m.tup.rise, m.tup.above, fun j a hj => ?_⟩ m.eq
      obtain ⟨hj', e⟩ := m.tup.pairs j a hj
      exact ⟨hj', he a _ (Nat.ne_of_gt (m.tup.above a (List.mem_of_getElem? hj))) e⟩
    refine wpAny_bind ?_
    rcases m.it with ⟨rfl, ok, ov, hit⟩ | ⟨ok, ov, a, f, oa, hit, _, _, _⟩
    · exact items_end_hot (s := { s with heap := h, toks := tk }) ht hit m.dd (by omega) fun h' he => wpAny_pure (fin h' he)
    · exact items_end_hot (s := { s with heap := h, toks := tk }) ht hit m.dd (by omega) fun h' he => wpAny_pure (fin h' he)
  | n + 1, i, h, tk, c, acc, as, hk, hi, m => by
    have hlt : i < es.size := by omega
    have sz : acc.size = i := by rw [← Array.length_toList, m.eq, List.length_map, m.len]
    refine codeAny_builtin PySem.F.entry_extend_loop ?_; rw [Around.under_plainId PySem.F.plain_extend_loop _]
    show wpAny _ A.in1 (pyNext (.ref I) >>= _) _ _ _
    refine wpAny_bind (dil_item (s := { s with heap := h, toks := tk }) (S := S) m.it (Heap.lt_size m.lst) m.dd hlt fun h' st ht hz kp => ?_)
    obtain ⟨c', m'⟩ := m.next hSI hSd hId hlt st ht kp
    have l' := kp S _ (Nat.ne_of_lt hSI) m.lst
    dsimp only at l' m' ⊢
    show wpAny _ A.in1 (updateSeq S (·.push (Value.ref h.objs.size)) >>= _) _ _ _
    refine wpAny_bind (wpAny_updateSeq l' rfl (wpAny_pure ⟨plainId_quiet PySem.F.plain_extend_loop _, fill_hot hh g1 d1 c1 xS xI hSI hSd hId hn res hR n (i + 1) _ tk c' _ _ (by omega) hlt m'⟩) (by rw [sz]; omega) (by show (acc.push (Value.ref h.objs.size)).size ≤ sizeLine + 1; rw [Array.size_push, sz]; omega))
end
section
variable {prog : Program} {w : World} {A : Around} {E : Value → Shared → Prop} {s : Shared} {r d x1 : Addr} {es : Array DictEntry} {ep : Nat}
theorem hot_seq {S : Addr} {a : Array Value} {n : Nat} {cl : Value} (hot : HotAt A x1 s.heap) (hS : s.heap.get? S = some { cls := cl, data := .seq a n }) : x1 ≠ S := fun z => by
  obtain ⟨_, o1, vs1, h1, d1, _⟩ := hot
  rw [z, hS] at h1
  cases h1
  cases d1
theorem ext_hot {R : Result → Shared → Prop} (hot : HotAt A x1 s.heap) (hv : s.heap.IsItemsView r d) (hm : s.heap.DictRaw d es ep) {S : Addr} (hSr : S ≠ r) (hSd : d ≠ S) {res : Value} {n0 : Nat} (hS : s.heap.get? S = some { cls := .type "list", data := .seq #[] n0 }) (hn : es.size ≤ sizeLine)
    (hR : ∀ h' tk acc c as, (∀ b o, b ≠ S → s.heap.get? b = some o → h'.get? b = some o) → h'.get? S = some { cls := .type "list", dict := none, data := .seq acc c, slots := #[] } → as.length = es.size → DilG es s.heap.objs.size h' as → acc.toList = as.map Value.ref → R (.ok (.ret res)) { s with heap := h', toks := tk }) :
    wpAny (model prog w) A.in1 (Builtin.List.listExtendWith (.ref S) (.ref r) res) (fun fin s' => match fin with | .done f => R (.ok f) s' | .again c' => c'.quiet = true ∧ codeAny (model prog w) A c' R s') (fun e s' => R (.error e) s') s := by
  have xS := hot_seq hot hS
  obtain ⟨hh, o1, vs1, g1, d1, c1⟩ := hot
  obtain ⟨I, hI⟩ : ∃ I, I = s.heap.objs.size := ⟨_, rfl⟩
  have SI : S < I := by rw [hI]; exact Heap.lt_size hS
  have xI : x1 ≠ I := by rw [hI]; exact Nat.ne_of_lt (Heap.lt_size g1)
  have dI : d ≠ I := by rw [hI]; exact Nat.ne_of_lt hm.lt_size
  obtain ⟨itO, hitO⟩ : ∃ itO : Obj, itO = { cls := .type "dict_itemiterator", data := .fields #[.none, .bool false, .ref d, .int 0 0, .int es.size 0, .int ep 0, .none, .none] } := ⟨_, rfl⟩
  have old : ∀ {h : Heap}, (∀ b o, b ≠ S → (s.heap.push itO).get? b = some o → h.get? b = some o) → ∀ b o, b ≠ S → s.heap.get? b = some o → h.get? b = some o := fun k b o q e => k b o q (Heap.get?_push_of_some _ e)
  have go : ∀ (h : Heap) (c1' tk : Nat), (∀ b o, b ≠ S → (s.heap.push itO).get? b = some o → h.get? b = some o) → h.get? S = some { cls := .type "list", data := .seq #[] c1' } → codeAny (model prog w) A (.builtin "list.extend.loop" ⟨[.ref S, .ref I, res], []⟩) R { s with heap := h, toks := tk } := fun h c1' tk k hS1 => by
    have gI : h.get? I = some itO := k I _ (Nat.ne_of_gt SI) (by rw [hI]; exact Heap.get?_push_size _ (by rw [hitO]; rfl))
    refine fill_hot (es := es) (ep := ep) (s := s) (h0 := s.heap) hh g1 d1 c1 xS xI SI hSd dI hn res (fun h' tk' acc c as k' q1 q2 q3 q4 => hR h' tk' acc c as (fun b o hb e => k' b o hb (by rw [hI]; exact Nat.ne_of_lt (Heap.lt_size e)) e) q1 q2 (by rw [← hI]; exact q3) q4) es.size 0 h tk c1' #[] [] rfl (Nat.zero_le _)
      ⟨.inl ⟨rfl, .none, .none, by rw [hitO] at gI; exact gI⟩, hm.at fun o e => old k d o hSd e, fun b o hb _ e => old k b o hb e, hS1, rfl, rfl, ⟨List.Pairwise.nil, fun _ ha => (nomatch ha), fun j a hj => by simp at hj⟩, Heap.lt_size gI⟩
  unfold Builtin.List.listExtendWith
  refine wpAny_bind (wpAny_typeOf (T := "dict_items") hv.typeIs ?_)
  simp only [show Builtin.List.listSameRef (.ref S) (.ref r) = false from by simp [Builtin.List.listSameRef, hSr], show (Value.type "dict_items" == Value.type "list") = false from by decide, show (Value.type "dict_items" == Value.type "tuple") = false from by decide, Bool.or_false, Bool.false_eq_true, if_false]
  refine wpAny_bind (wpAny_pyIter_items_raw hv hm ?_)
  have L1 : (s.heap.push itO).get? S = _ := Heap.get?_push_of_some _ hS
  rw [hitO] at L1
  refine wpAny_bind (wpAny_holding (kdx_hint (let ⟨o, ho, hc, _⟩ := hv; ⟨o, Heap.get?_push_of_some _ ho, hc⟩) ?_))
  refine wpAny_ite_split (fun _ => ?_) (fun _ => wpAny_pure ⟨plainId_quiet PySem.F.plain_extend_loop _, ?_⟩)
  · refine wpAny_bind (wpAny_rule ?_); refine wpAny_bind ?_
    show wpAny _ _ (updateSeq S (·.push .none) >>= fun _ => updateSeq S (·.pop)) _ _ _
    refine wpAny_bind (wpAny_updateSeq L1 rfl ?_)
    have L2 := Heap.get?_update_self (Obj.mapSeq (·.push Value.none)) L1 rfl
    refine wpAny_updateSeq (hz := by seq_fits) L2 rfl ?_
    have L3 := Heap.get?_update_self (Obj.mapSeq (·.pop)) L2 rfl
    refine wpAny_pure ⟨plainId_quiet PySem.F.plain_extend_loop _, ?_⟩
    rw [← hI]
    exact go _ _ _ (fun b o hb e => by rw [Heap.get?_update_other _ _ (Ne.symm hb), Heap.get?_update_other _ _ (Ne.symm hb), ← hitO]; exact e) L3
  · rw [← hI]
    exact go _ n0 _ (fun b o _ e => by rw [← hitO]; exact e) L1
theorem call_hot (hot : HotAt A x1 s.heap) : CallOk prog w A s := fun r d es ep Q E hv hm hn hQ => by
  refine callType_codes (Q₁ := fun obj s₁ => obj = .ref s.heap.objs.size ∧ s₁ = { s with heap := s.heap.push { cls := .type "list", data := .seq #[] } }) PySem.F.called_list (PySem.F.typeCall_list_1 _) PySem.F.entry_list_init (code_list_new _ ⟨rfl, rfl⟩) fun obj s₁ ⟨q1, q2⟩ => ?_
  subst q1 q2
  have hS : (s.heap.push { cls := .type "list", data := .seq #[] }).get? s.heap.objs.size = some { cls := .type "list", data := .seq #[] } := Heap.get?_push_size _ rfl
  have rlt : r < s.heap.objs.size := let ⟨_, ho, _⟩ := hv; Heap.lt_size ho
  have dlt : d < s.heap.objs.size := hm.lt_size
  have hot1 : HotAt A x1 (s.heap.push { cls := .type "list", data := .seq #[] }) := by
    obtain ⟨hh, o1, vs1, g1, d1, c1⟩ := hot
    exact ⟨hh, o1, vs1, Heap.get?_push_of_some _ g1, d1, c1⟩
  refine ⟨⟨_, hS, rfl⟩, PySem.F.args_list_init_2 _ _, ?_⟩
  obtain ⟨S, hSe⟩ : ∃ S, S = s.heap.objs.size := ⟨_, rfl⟩
  obtain ⟨h1, hh1⟩ : ∃ h1, h1 = s.heap.push { cls := .type "list", data := .seq #[] } := ⟨_, rfl⟩
  rw [← hSe, ← hh1] at hS ⊢
  rw [← hh1] at hot1
  have old : ∀ b o, s.heap.get? b = some o → h1.get? b = some o := fun b o e => by rw [hh1]; exact Heap.get?_push_of_some _ e
  show wpAny _ _ (do let old ← Builtin.List.listItems (.ref S); Builtin.List.listUpdate (.ref S) (fun _ => #[]); letGo old.toList.reverse; Builtin.List.listExtendWith (.ref S) (.ref r) .none) _ _ _
  refine wpAny_bind ?_; unfold Builtin.List.listItems; refine wpAny_bind (wpAny_seqItems hS rfl (wpAny_pure ?_))
  show wpAny _ _ (updateSeq S (fun _ => #[]) >>= fun _ => letGo (#[] : Array Value).toList.reverse >>= fun _ => Builtin.List.listExtendWith (.ref S) (.ref r) .none) _ _ _
  refine wpAny_bind (wpAny_updateSeq hS rfl ?_)
  have L2 := Heap.get?_update_self (Obj.mapSeq (fun _ => (#[] : Array Value))) hS rfl
  have oth : ∀ b o, b ≠ S → h1.get? b = some o → (h1.update S (Obj.mapSeq (fun _ => (#[] : Array Value)))).get? b = some o := fun b o hb e => by rw [Heap.get?_update_other _ _ (Ne.symm hb)]; exact e
  have xS := hot_seq (s := { s with heap := h1 }) hot1 hS
  refine wpAny_bind (wpAny_letGo ?_)
  have hot2 : HotAt A.in1 x1 (h1.update S (Obj.mapSeq (fun _ => (#[] : Array Value)))) := by
    obtain ⟨hh, o1, vs1, g1, d1, c1⟩ := hot1
    exact ⟨hh, o1, vs1, oth _ _ xS g1, d1, c1⟩
  have rS : S ≠ r := by rw [hSe]; exact Nat.ne_of_gt rlt
  have dS : d ≠ S := by rw [hSe]; exact Nat.ne_of_lt dlt
  refine ext_hot (es := es) (ep := ep) (A := A.in1) hot2 (let ⟨o, ho, x⟩ := hv; ⟨o, oth r o rS.symm (old r o ho), x⟩) (hm.at fun o e => oth d o dS (old d o e)) rS dS L2 hn fun h' tk acc c as k q1 q2 q3 q4 => ?_
  refine ⟨rfl, ?_⟩
  rw [hSe] at q1 ⊢
  exact hQ h' tk acc c as (fun b o e => k b o (by rw [hSe]; exact Nat.ne_of_lt (Heap.lt_size e)) (oth b o (by rw [hSe]; exact Nat.ne_of_lt (Heap.lt_size e)) (old b o e))) q1 q2 (q3.low (by rw [← hSe]; exact Nat.le_of_lt (Heap.lt_size L2))) q4
end
end VI
namespace VS
open PySem PySem.Spec L2 L2H
section
variable {X : Cx} {R : Reg} {G : List Sl} {pos : Pos}
/-- list(d.items()) in an except suite -/
theorem en_listItemsAH {e : Expr} {p apos cpos : Pos} {P : List Dt → Prop} (hc : HotC X) (hg : Gl X "list") (hm : X.mg "list" = none) (h : E X R G e fun d => ∃ (α : Type) (f : α → Dt) (m : Al α), d = dA f m ∧ P (itA f m))
    (hbase : attributeBase e "items" X.env (eval e X.env) = eval e X.env := by rfl) (hline : (apos.endLine == cpos.line) = true := by rfl)
    (hs : starEach [.Call (.Attribute e "items" apos) [] [] cpos] X.env = (false, eval (.Call (.Attribute e "items" apos) [] [] cpos) X.env) :: starEach [] X.env := by rfl) : EN X R G (.Call (.Name "list" p) [.Call (.Attribute e "items" apos) [] [] cpos] [] pos) P :=
  en_listItemsGA (fun pins σ H s I => VI.call_hot (hc.at I).choose_spec) hg hm h hbase hline hs
end
end VS
set_option Elab.async false
set_option linter.all false
set_option maxRecDepth 100000
set_option maxHeartbeats 2000000
/-! d.pop(k), d one's own with tuple keys, k there -/
namespace DT
open PySem PySem.Spec PyProof.Rows
end DT
namespace L2.DX
open PySem PySem.Spec PyProof.Rows L2
def rPop1 : V → List V → Hp → VK → Prop := fun x xs H Q => ∃ (a : Addr) (kvs : List (List L2.Key × V)) (k : List L2.Key) (b : Addr) (v : V), x = .ref a ∧ xs = [.ref b] ∧ H a = some (.dT kvs) ∧ H b = some (.tup (k.map kV)) ∧ valV kvs k = some v ∧ Q v (upd H a (.dT (dropK kvs k)))
end L2.DX
namespace VS
open PySem PySem.Spec L2
/-- a dict of counts without one -/
def dropA {α : Type} (m : Al α) (p : Int × Int) : Al α := m.filter fun e => decide (e.1 ≠ p)
section
variable {X : Cx} {R : Reg} {G : List Sl} {pos : Pos} {k : Kt}
end
end VS
namespace VS
open PySem PySem.Spec L2
section
variable {X : Cx} {R : Reg}
end
end VS
set_option Elab.async false
set_option linter.all false
set_option maxRecDepth 100000
set_option maxHeartbeats 2000000
/-! for a, b in d in a def that may raise within the walk -/
namespace VS
open PySem PySem.Spec L2
/-- as tLock; the base does not hold the thing -/
def tLockN (X : Cx) (t : TS) : TS := fun D σ H => ∃ d u, H d = some u ∧ Mut (some u) ∧ ∀ od, (∀ o' u', X.H_0 d ≠ some (.frz o' u')) → t ⟨fun σ' H' => H' d = some (.frz od u) ∧ D.nx σ' (upd H' d u), fun v H' => H' d = some (.frz od u) ∧ D.rt v (upd H' d u), fun σ' H' => H' d = some (.frz od u) ∧ D.bk σ' (upd H' d u), fun σ' H' => H' d = some (.frz od u) ∧ D.ct σ' (upd H' d u)⟩ σ (upd H d (.frz od u))
section
variable {X : Cx}
theorem ps_lockN {st : Stmt} {t : TS} (h : PS X st t) : PS X st (tLockN X t) := by
  refine ⟨fun pins s σ H D I hw => ?_⟩
  obtain ⟨d, u, hd, mu, hw⟩ := hw
  have hn := I.nofrz hd mu
  refine (ps_lock (X := X) h).run pins s σ H D I ⟨d, u, hd, mu, fun od => hw od hn⟩
theorem tk_lock {W : WX} (tk : L2N.Takes X W) {d : Addr} {od : Obj} {u : HO} (hn : ∀ o' u', X.H_0 d ≠ some (.frz o' u')) : L2N.Takes X (fun cls dd σ H => H d = some (.frz od u) ∧ W cls dd σ (upd H d u)) := by
  rintro e s' ⟨a, B, sI, pins, σ, H, cls, dd, rfl, I, nb, up, sky, na, os, ag, h1, w⟩
  refine tk _ _ ⟨a, B, sI, pins, σ, upd H d u, cls, dd, rfl, I.unlock h1 hn, nb, up, sky, ?_, os, ag, w⟩
  have ne : a ≠ d := fun z => by rw [z, h1] at na; cases na
  rw [upd_ne ne]
  exact na
end
section
variable {X : Cx} {R : Reg} {G : List Sl} {pos : Pos} {k : Kt} {xq : List Sl → XD} {W : WX}
theorem s_forKX (tk : L2N.Takes X W) (i0 : Nat) {tg : Expr} {x : Str} {p : Pos} {body : List Stmt} {ks : List (List Key)} {xs : List Dt} (hp : PassesOwn (model X.prog X.w) X.A X.env X.xe) (hc : X.calm = true) (hg : G[i0]? = some (.sh (.dT ks xs))) (h : ∀ W', L2N.Takes X W' → Kw X (R.wX X.K xq W') G k tg body ks)
    (hN : X.N[i0]? = some x := by rfl) (hv : Vis X.env.scope x := by first | exact Or.inl rfl | exact Or.inr (Or.inl rfl) | exact Or.inr (Or.inr rfl)) (hdb : (x == ("__debug__" : Str)) = false := by decide) (hcd : (x == ("__classdict__" : Str)) = false := by decide)
    (hs : ∀ z, foldedSetIterable (.Name x p) X.env z = pure z := by intro _; rfl) : S1 X (R.wX X.K xq W) (.For tg (.Name x p) body [] pos) G k := fun F0 H0 σ F H D ty b c => by
  obtain ⟨v0, e1, y, e2, r⟩ := ty.sl.get hg
  obtain ⟨d, vs, rfl, hd, hl, rl⟩ := rp_dT.mp r
  subst e2
  have pv : PE X (.Name x p) (fun τ H Q => ∃ v, τ[i0]? = some (some v) ∧ Q v H) := ⟨fun pins s τ H Q I hq => (pe_var hN hv hdb hcd).run pins s τ H Q I hq⟩
  rcases hd with hd | ⟨od, hd⟩
  · refine s1Of.of (ps_lockN (ps_for hp hc (pi_keys pv) pg_w pss_w hs)) ⟨d, .dT (ks.zip vs), ty.wf.fh _ _ hd, trivial, fun od hnz => ?_⟩
    generalize hu : ks.zip vs = kvs at *
    have nM : ¬ R.M d := fun m => by rw [ty.wf.off d m] at hd; cases hd
    have back : ∀ {F' H' : Hp}, Ext R (upd F d (.frz od (.dT kvs))) (upd H0 d (.frz od (.dT kvs))) F' H' → F' d = some (.frz od (.dT kvs)) ∧ H' d = some (.frz od (.dT kvs)) ∧ Ext R F0 H0 (upd F' d (.dT kvs)) (upd H' d (.dT kvs)) := fun {F' H'} ex => by
      have f1 : F' d = some (.frz od (.dT kvs)) := ex.ff _ _ upd_same
      refine ⟨f1, ex.wf.fh _ _ f1, ex.wf.lk (kvs := kvs) (.inr ⟨od, f1⟩), fun a o ha => ?_, fun a o nm ha => ?_, fun a ha n => ?_⟩
      · have hf := b.ext.un.ff a o ha
        by_cases e : a = d
        · subst e; rw [hd] at hf; rw [upd_same]; exact hf
        · rw [upd_ne e]; exact ex.ff a o (by rw [upd_ne e]; exact hf)
      · by_cases e : a = d
        · subst e
          have := b.ext.un.hh a o nm ha
          rw [ty.wf.fh _ _ hd] at this
          rw [upd_same]
          exact this
        · rw [upd_ne e]; exact ex.hh a o nm (by rw [upd_ne e]; exact ha)
      · have hf := b.ext.un.fr a ha n
        by_cases e : a = d
        · subst e; rw [hd] at hf; cases hf
        · rw [upd_ne e]; exact ex.fr a (by rw [upd_ne e]; exact ha) (by rw [upd_ne e]; exact hf)
    have w2 : Lk kvs (.dT kvs) := .inl rfl
    have fr0 : ∀ {o : Addr}, (upd H0 d (.frz od (.dT kvs))) o = none → o ≠ d ∧ H0 o = none := fun {o} ho => by
      have ne : o ≠ d := fun e => by rw [e, upd_same] at ho; cases ho
      rw [upd_ne ne] at ho
      exact ⟨ne, ho⟩
    let W1 : WX := fun cls dd σ H => H d = some (.frz od (.dT kvs)) ∧ W cls dd σ (upd H d (.dT kvs))
    have tk1 : L2N.Takes X W1 := tk_lock tk hnz
    have zz : (R.wX X.K xq W1).Z (upd F d (.frz od (.dT kvs))) (upd H0 d (.frz od (.dT kvs))) := fun G' σ' F' H' C ns ds dd hx ty' ex fo dat => by
      obtain ⟨f1, f2, f3⟩ := back ex
      refine ⟨f2, b.z G' σ' _ _ C ns ds dd hx (ty'.lk (.inr ⟨od, f1⟩) w2) f3 (fun o ho => (fr0 (fo o ho)).2) ?_⟩
      rcases dat with ⟨dx, vs', e, h0, nm, hx2, hl2, rl2⟩ | ⟨e, h1, h2⟩
      · obtain ⟨ne, h0'⟩ := fr0 h0
        exact .inl ⟨dx, vs', e, h0', nm, by rw [upd_ne ne]; exact hx2, hl2, rpL_lk (.inr ⟨od, f1⟩) w2 rl2⟩
      · exact .inr ⟨e, h1, h2⟩
    have w1 : Lk kvs (.frz od (.dT kvs)) := .inr ⟨od, rfl⟩
    have ty1 : Ty X.K (R.wX X.K xq W1) G σ (upd F d (.frz od (.dT kvs))) (upd H d (.frz od (.dT kvs))) := (ty.un.lk (.inl hd) w1).wX
    have bs1 : Bs (R.wX X.K xq W1) (upd F d (.frz od (.dT kvs))) (upd H0 d (.frz od (.dT kvs))) G σ (upd F d (.frz od (.dT kvs))) (upd H d (.frz od (.dT kvs))) := by
      refine ⟨⟨ty1.wf, .refl _, fun a o nm ha => ?_, fun _ _ n => n⟩, fun o ho => ?_, zz⟩
      · by_cases e : a = d
        · subst e; rw [upd_same] at ha ⊢; exact ha
        · rw [upd_ne e] at ha ⊢; exact b.ext.un.hh a o nm ha
      · obtain ⟨j, z, q1, q2⟩ := owns_mem ho
        obtain ⟨o', q3, f1, _⟩ := ty.own q1
        rw [q2] at q3
        cases q3
        rw [upd_ne (fun e => by rw [e, hd] at f1; cases f1)]
        exact b.fresh o ho
    have bb : ∀ {G' : List Sl} {σ' : St} {F' H' : Hp}, Bs (R.wX X.K xq W1) (upd F d (.frz od (.dT kvs))) (upd H0 d (.frz od (.dT kvs))) G' σ' F' H' → Bs (R.wX X.K xq W) F0 H0 G' σ' (upd F' d (.dT kvs)) (upd H' d (.dT kvs)) := fun bs => ⟨(back bs.ext.un).2.2.wX, fun o ho => (fr0 (bs.fresh o ho)).2, b.z⟩
    refine forK_core hN hv (h W1 tk1) hl e1 (by rw [upd_same, hu]) ty1 bs1 ⟨fun G' σ' F' H' hk ty' b' => ?_, fun dd v F' H' hk ex rr => ?_, fun dd q F' H' hk ex h0 fq ow => ?_, fun G' σ' F' H' hk ty' b' => ?_, fun G' σ' F' H' hk ty' b' => ?_⟩
    · obtain ⟨f1, f2, f3⟩ := back b'.ext.un
      exact ⟨f2, c.nx G' σ' _ _ hk ((ty'.un.lk (.inr ⟨od, f1⟩) w2).wX) (bb b')⟩
    · obtain ⟨f1, f2, f3⟩ := back ex.un
      exact ⟨f2, c.rt dd v _ _ hk f3.wX (rp_lk (.inr ⟨od, f1⟩) w2 rr)⟩
    · obtain ⟨f1, f2, f3⟩ := back ex.un
      obtain ⟨ne, h0'⟩ := fr0 h0
      exact ⟨f2, c.rn dd q _ _ hk f3.wX h0' (by rw [upd_ne ne]; exact fq) (owo_lk (.inr ⟨od, f1⟩) w2 ne ow)⟩
    · obtain ⟨f1, f2, f3⟩ := back b'.ext.un
      exact ⟨f2, c.bk G' σ' _ _ hk ((ty'.un.lk (.inr ⟨od, f1⟩) w2).wX) (bb b')⟩
    · obtain ⟨f1, f2, f3⟩ := back b'.ext.un
      exact ⟨f2, c.ct G' σ' _ _ hk ((ty'.un.lk (.inr ⟨od, f1⟩) w2).wX) (bb b')⟩
  · exact s1Of.of (ps_for hp hc (pi_keys pv) pg_w pss_w hs) (forK_core hN hv (h W tk) hl e1 hd ty b c)
end
section
variable {X : Cx} {R : Reg} {G : List Sl} {pos : Pos}
/-- d.get(c, x) of a dict of texts -/
theorem e_dget2S {o e g : Expr} {apos : Pos} {P : Dt → Prop} (hu : X.A.units + 1 < cLine) (h : E X R G o fun d => ∃ (m : Al Str), d = dA .str m ∧ E X R G e fun d' => ∃ p, d' = .key (kk p) ∧ E X R G g fun d3 => ∃ z, d3 = .str z ∧ P (.str ((lk m p).getD z)))
    (m : M2 X o "get" apos e g pos := by exact ⟨rfl, rfl, rfl, rfl⟩) : E X R G (.Call (.Attribute o "get" apos) [e, g] [] pos) P :=
  e_dget2 hu (fun σ F H Q ty c => h σ F H Q ty fun v F' H' d ex r ⟨m, e2, h2⟩ => c v F' H' d ex r ⟨_, _, e2, fun σ F H Q ty c => h2 σ F H Q ty fun v F' H' d ex r ⟨p, e, h3⟩ => c v F' H' d ex r ⟨kk p, e, fun σ F H Q ty c => h3 σ F H Q ty fun v F' H' d ex r ⟨z, e3, q⟩ => c v F' H' d ex r (by
    rw [look_dA, e3]
    cases hl : lk m p <;> rw [hl] at q <;> exact q)⟩⟩) m
end
end VS
namespace VS
open PySem PySem.Spec L2
section
variable {X : Cx} {R : Reg}
/-- a key compared as the tuple it is -/
theorem w_keyL {o : Value → Value → Sem Value} {c : Int × Int} {d : Dt} {P : Dt → Prop} (h : W2 X R o (.tup [.int c.1, .int c.2]) d P) : W2 X R o (.key (kk c)) d P := fun F H x y Q w rx ry ct => h F H x y Q w (rp_key_tup rx) ry ct
end
end VS
namespace VS
open PySem PySem.Spec L2
section
variable {X : Cx} {R : Reg} {G : List Sl} {pos : Pos} {W : WX}
theorem pe_callRS {CX : CXT} {j : Nat} {f : Addr} {sp : Sp} {E : L2.St → XK} {x : Str} {e : Expr} {es : List Expr} {t : TA} {p : Pos} (F : FnR X.prog X.w X.K X.mg X.base CX j f sp) (hr : Room j X.A) (hg : Gl X x) (hm : X.mg x = some (.ref f)) (hk : PySem.W.keepIn X.K (.ref f) = true) (hx : ∀ σ, PassesAt CX X σ (E σ))
    (ha : PA X (e :: es) t) (hdb : (x == ("__debug__" : Str)) = false := by decide) (he : starEach (e :: es) X.env = (false, eval e X.env) :: starEach es X.env := by rfl) (hpl : (backTo pos (starEach es X.env)).any (·.1) = false := by rfl) :
    PE X (.Call (.Name x p) (e :: es) [] pos) (fun σ H Q => t σ H fun vs H1 => sp vs H1 Q (E σ)) := by
  refine ⟨fun pins s σ H Q I h => ?_⟩
  refine wpAny_Call_Name_kw (ld_glob I hg hm ?_ hdb)
  refine PySem.W.callWith_K (h₀ := X.base) I.ok.mod.kin hk (thn (ha.run pos pins s σ H _ I h) fun us s1 ⟨vs, H1, I1, r, q⟩ => ⟨I1.kIn, ?_⟩) he hpl
  refine wpAny_call (codeAny_mono (F X.A X.stack s1 H1 us vs Q (E σ) hr I1.env0 r q) fun r s' hq => ?_)
  cases r with
  | error e => exact hx σ pins H1 s1 e s' I1 hq
  | ok fl =>
    cases fl with
    | ret u => exact I1.after hq
    | next => exact False.elim hq
    | brk => exact False.elim hq
    | cont => exact False.elim hq
/-- a class called with plain arguments, which may raise -/
theorem ex_callC {x : Str} {φ : Ph} {n j : Nat} {e : Expr} {es : List Expr} {p : Pos} {P : Dt → Prop} {xd : XD} (tk : L2N.Takes X W) (F : FnC X.prog X.w X.K X.mg X.base j x n φ) (hr : Room j X.A) (hg : Gl X x)
    (h : EA X R G (e :: es) fun ds => ds.length = n ∧ φ ds P xd)
    (hdb : (x == ("__debug__" : Str)) = false := by decide) (he : starEach (e :: es) X.env = (false, eval e X.env) :: starEach es X.env := by rfl) (hpl : (backTo pos (starEach es X.env)).any (·.1) = false := by rfl) : EX X R G W (.Call (.Name x p) (e :: es) [] pos) P xd := fun σ F' H Q ty c cx => by
  obtain ⟨f, a1, a2, a3⟩ := F.ex
  refine tOf.of (pe_callRS (E := WE W) a3 hr hg a1 a2 (fun σ => L2N.passAt tk σ) pa_w hdb he hpl) (h σ F' H _ ty fun vs F1 H1 ds ex r ⟨hl, hφ⟩ => ?_)
  exact spD_ofX ex.wf r hl hφ (c.step ex) fun F' H' C ns ds d hx ex3 dat => cx F' H' C ns ds d hx (ex.trans ex3) (XDat.free ex dat)
end
end VS
set_option Elab.async false
set_option linter.all false
set_option maxRecDepth 100000
set_option maxHeartbeats 2000000
/-! [e for c in d if ..]: a dict with tuple keys walked by a list comprehension, the key as it is -/
namespace VS
open PySem PySem.Spec L2
section
variable {R : Reg} {F H F' H' : Hp} {L : Addr} {u : HO}
theorem Ext.putN (e : Ext R F H F' H') (h : H L = none) (hF : F' L = none) (nM : ¬ R.M L) : Ext R F H F' (upd H' L u) := by
  refine ⟨⟨fun a o q => ?_, e.wf.off, fun a m => ?_, R.st H' _ (fun a o m q => ?_) e.wf.b⟩, e.ff, fun a o n q => ?_, e.fr⟩
  · rw [upd_ne fun z => by rw [z, hF] at q; cases q]; exact e.wf.fh a o q
  · rw [upd_ne fun z => nM (by rw [← z]; exact m)]; exact e.wf.oc a m
  · rw [upd_ne fun z => nM (by rw [← z]; exact m)]; exact q
  · rw [upd_ne fun z => by rw [z, h] at q; cases q]; exact e.hh a o n q
end
section
variable {R : Reg}
theorem CtN.shN {K : PySem.W.Frag} {F H : Hp} {P : Dt → Prop} {Q : VK} (c : ∀ (v : V) (F' H' : Hp) (d : Dt), Ext R F H F' H' → Rp K F' d v → P d → Q v H') : CtN K R F H (fun xs => P (.lst xs)) Q := fun D F' H' xs vacc ex' hD nM hD' fD' ra p => by
  refine c (.ref D) (upd F' D (.lst vacc)) H' (.lst xs) ⟨⟨fun a o h => ?_, fun a m => ?_, ex'.wf.oc, ex'.wf.b⟩, ex'.ff.trans (same_upd fD'), ex'.hh, fun a h n => ?_⟩ (rp_lst_new fD' ra) p
  · by_cases q : a = D
    · subst q; rw [upd_same] at h; rw [hD']; exact h
    · rw [upd_ne q] at h; exact ex'.wf.fh a o h
  · rw [upd_ne (fun z => nM (by rw [← z]; exact m))]
    exact ex'.wf.off a m
  · rw [upd_ne (fun z => h.ne (by rw [z]; exact hD))]
    exact ex'.fr a h n
end
section
variable {X : Cx} {R : Reg} {G : List Sl} {pos : Pos}
/-- what the turns give -/
structure LcKN (X : Cx) (R : Reg) (G : List Sl) (tg elt : Expr) (ifs : List Expr) (scope : Scope) (vs : List Nat) (ks : List (List Key)) (J : Nat → List Dt → Prop) : Prop where
  start : J 0 []
  step : ∀ i q acc, ks[i]? = some q → J i acc → acc.length ≤ i → ∃ js : List (Nat × Dt), (∀ Y, Blk X scope Y → A Y tg (.key q) js) ∧ (∀ p ∈ js, p.1 ∈ vs) ∧
    ∀ Y, Blk X scope Y → Ts Y R (setsD (wipeD G vs) js) ifs fun b => if b = true then ∀ Z, Blk X scope Z → E Z R (setsD (wipeD G vs) js) elt fun y => J (i + 1) (acc ++ [y]) else J (i + 1) acc
theorem lcKN_run {tg elt : Expr} {ifs : List Expr} {scope : Scope} {own : List Nat} {i0 : Nat} {σ : L2.St} {F H : Hp} {Q : VK} {d : Addr} {od : Obj} {ks : List (List Key)} {vs : List V} {P : List Dt → Prop} (ty : Ty X.K R G σ F H) (c : CtN X.K R F H P Q)
    (hsl : σ[i0]? = some (some (.ref d))) (hF : F d = some (.frz od (.dT (ks.zip vs)))) (hl : ks.length = vs.length) (hz : ks.length ≤ 100000) {J : Nat → List Dt → Prop} (lc : LcKN X R G tg elt ifs scope own ks J) (fin : ∀ acc, J ks.length acc → P acc) :
    tLc (iKeys fun τ H Q => ∃ v, τ[i0]? = some (some v) ∧ Q v H) (tgB X scope tg) (ttB X scope ifs) (teB X scope elt) own σ H Q := by
  refine ⟨.ref d, hsl, d, od, rfl, .inr ⟨_, ty.wf.fh _ _ hF, fun D hD => ?_⟩⟩
  have hzl : (ks.zip vs).length = ks.length := by rw [List.length_zip]; omega
  have nM : ¬ R.M D := ty.wf.new hD
  refine ⟨fun i m H2 => m = ks.length - i ∧ i ≤ ks.length ∧ ∃ F2 acc vacc, J i acc ∧ acc.length ≤ i ∧ H2 D = some (.lst vacc) ∧ F2 D = none ∧ RpL X.K F2 acc vacc ∧ Ext R F H F2 H2, ⟨_, rfl, Nat.zero_le _, F, [], [], lc.start, Nat.le_refl _, upd_same, ty.wf.fh.free hD, .nil, ty.wf.own hD⟩, ?_⟩
  rintro i m H2 ⟨rfl, hi, F2, acc, vacc, j, hla, hD2, fD2, ra, ex2⟩
  have hd2 := ex2.wf.fh _ _ (ex2.ff _ _ hF)
  by_cases hlt : i < ks.length
  · refine .inr ⟨⟨hd2, by rw [hzl]; exact hlt⟩, _, fun H' z => z, fun x H' yy => ?_⟩
    obtain ⟨rfl, q, v, a, e1, rfl, e3⟩ := yy
    have eq : ks[i]? = some q := by
      rw [List.getElem?_zip_eq_some] at e1
      exact e1.1
    obtain ⟨js, ha, hjs, hS⟩ := lc.step i q acc eq j hla
    have sm : Same (upd F2 a (.tup (q.map kV))) H' := fun z o hz' => by
      by_cases e : z = a
      · subst e; rw [upd_same] at hz'; rw [e3]; exact hz'
      · rw [upd_ne e] at hz'; exact ex2.wf.fh z o hz'
    have nTa : ¬ NT (H' a) := fun ⟨u, h1, h2⟩ => by rw [e3] at h1; cases h1; exact h2 _ rfl
    have exA : Ext R F2 H' (upd F2 a (.tup (q.map kV))) H' := by
      refine ⟨⟨sm, fun z m => ?_, ex2.wf.oc, ex2.wf.b⟩, fun z o hz' => ?_, fun _ _ _ h => h, fun z n h => ?_⟩
      · rw [upd_ne (fun e => nTa (by rw [← e]; exact ex2.wf.oc z m))]
        exact ex2.wf.off z m
      · by_cases e : z = a
        · subst e
          rw [upd_same, ← e3]
          exact ex2.wf.fh z o hz'
        · rw [upd_ne e]; exact hz'
      · rw [upd_ne (fun e => nTa (by rw [← e]; exact n))]
        exact h
    have ex2 := ex2.trans exA
    have ra := ra.mono exA.ff
    have fD2 : upd F2 a (.tup (q.map kV)) D = none := by
      rw [upd_ne (fun e => by rw [e, e3] at hD2; cases hD2)]
      exact fD2
    generalize hF2 : upd F2 a (.tup (q.map kV)) = F3 at *
    intro Y bY
    refine ha Y bY (L2.wipe σ own) F3 H' (.ref a) _ sm (by rw [bY.K, ← hF2]; exact rp_key.mpr ⟨a, rfl, upd_same⟩) fun ws hw rw1 => ?_
    have rv : RpL X.K F3 (js.map (·.2)) ws := by
      rw [bY.K] at rw1
      exact rw1
    refine ⟨?_, ?_⟩
    · rw [wipe_sets fun p hp => ?_, wipe_wipe]
      have q := (List.of_mem_zip hp).1
      obtain ⟨z, hz, e⟩ := List.mem_map.mp q
      rw [← e]
      exact hjs z hz
    · intro Y2 bY2
      have tyW : Ty X.K R (setsD (wipeD G own) js) (setsV (L2.wipe σ own) ((js.map (·.1)).zip ws)) F3 H' := Ty.sets ((ty.ext ex2).wipe own) rv
      refine hS Y2 bY2 _ F3 H' _ (by rw [bY2.K]; exact tyW) fun b F4 H4 ex4 p => ?_
      have hD4 : H4 D = some (.lst vacc) := ex4.hh D _ nM hD2
      have fD4 : F4 D = none := ex4.fr D (by rw [hD2]; exact ⟨_, rfl, fun _ z => nomatch z⟩) fD2
      cases b with
      | false =>
        rw [if_neg (by decide)] at p ⊢
        exact ⟨_, by omega, rfl, hlt, F4, acc, vacc, p, Nat.le_succ_of_le hla, hD4, fD4, ra.mono ex4.ff, ex2.trans ex4⟩
      | true =>
        rw [if_pos rfl] at p ⊢
        intro Y3 bY3
        refine p Y3 bY3 _ F4 H4 _ (by rw [bY3.K]; exact tyW.ext ex4) fun y F5 H5 dd ex5 r5 pj => ?_
        have hD5 : H5 D = some (.lst vacc) := ex5.hh D _ nM hD4
        have fD5 : F5 D = none := ex5.fr D (by rw [hD4]; exact ⟨_, rfl, fun _ z => nomatch z⟩) fD4
        have ra5 := ra.mono (ex4.ff.trans ex5.ff)
        have e5 := (ex2.trans ex4).trans ex5
        refine ⟨vacc, hD5, ?_, ⟨_, by omega, rfl, hlt, F5, acc ++ [dd], vacc ++ [y], pj, by simp; omega, upd_same, fD5, ra5.append (.cons (by rw [← bY3.K]; exact r5) .nil), e5.putN hD fD5 nM⟩⟩
        rw [← ra5.length]
        exact Nat.lt_of_le_of_lt hla (Nat.lt_of_lt_of_le hlt (Nat.le_trans hz (by decide)))
  · have e : i = ks.length := by omega
    subst e
    exact .inl ⟨⟨hd2, by rw [hzl]; exact Nat.le_refl _⟩, c D F2 H2 acc vacc ex2 hD nM hD2 fD2 ra (fin acc j)⟩
/-- [elt for tg in x if ..], x a variable that holds a dict -/
theorem s_lcKN {k : Kt} (i i0 : Nat) {y : Str} {py cpos : Pos} {x : Str} {px : Pos} {tg elt : Expr} {ifs : List Expr} {scope : Scope} {own : List (Str × Nat)} {ks : List (List Key)} {xs : List Dt} (hc : X.calm = true) (hNd : X.N.Nodup) (hy : X.N[i]? = some y) (hyl : X.env.scope.names.lookup y = some .local)
    (hsw : swapsWith (.ListComp elt [⟨tg, .Name x px, ifs, 0⟩] scope cpos) (some (.Name y py)) pos.line X.env = pure true) (ok : BlkOk X.N X.env.scope scope own)
    (hg : G[i0]? = some (.sh (.dT ks xs))) (hz : ks.length ≤ 100000) (h : ∃ J : Nat → List Dt → Prop, LcKN X R G tg elt ifs scope (own.map (·.2)) ks J ∧ ∀ acc, J ks.length acc → k.nx (G.set i (.sh (.lst acc)))) (hN : X.N[i0]? = some x := by rfl) (hv : Vis X.env.scope x := by first | exact Or.inl rfl | exact Or.inr (Or.inl rfl) | exact Or.inr (Or.inr rfl))
    (hd : (x == ("__debug__" : Str)) = false := by decide) (hcd : (x == ("__classdict__" : Str)) = false := by decide) (hs : ∀ z, foldedSetIterable (.Name x px) X.env z = pure z := by intro _; rfl) : S1 X R (.Assign [.Name y py] (.ListComp elt [⟨tg, .Name x px, ifs, 0⟩] scope cpos) pos) G k := fun F0 H0 σ F H Dk ty bk cc => by
  have c : CtN X.K R F H (fun acc => k.nx (G.set i (.sh (.lst acc)))) (fun v H1 => gName i v σ H1 Dk.nx) := CtN.shN (P := fun d => k.nx (G.set i (.sh d))) (fun v F' H' dd ex r p => cc.nx _ _ F' H' p ((ty.ext ex).set i r) ((bk.step ex).set i))
  obtain ⟨v0, e1, y2, e2, r⟩ := ty.sl.get hg
  obtain ⟨d, vs, rfl, hd0, hl, rvs⟩ := rp_dT.mp r
  subst e2
  obtain ⟨J, lc, fin⟩ := h
  have pv : PE X (.Name x px) (fun τ H Q => ∃ v, τ[i0]? = some (some v) ∧ Q v H) := ⟨fun pins s τ H Q I hq => (pe_var hN hv hd hcd).run pins s τ H Q I hq⟩
  have run := ps_setLc (elt := elt) (tg := tg) (ifs := ifs) hc hNd hy hyl hsw (pi_keys (tg := tg) pv) ok blk_pg blk_pts blk_pe hs
  have hl2 := rvs.length
  rcases hd0 with hd0 | ⟨od, hd0⟩
  · refine s1Of.of (ps_lock run) ⟨d, .dT (ks.zip vs), ty.wf.fh _ _ hd0, trivial, fun od => ?_⟩
    generalize hu : ks.zip vs = kvs at *
    have w1 : Lk kvs (.frz od (.dT kvs)) := .inr ⟨od, rfl⟩
    have w2 : Lk kvs (.dT kvs) := .inl rfl
    have ty1 := ty.lk (.inl hd0) w1
    show tLc _ _ _ _ _ σ _ _
    refine lcKN_run (od := od) (d := d) (ks := ks) (vs := vs) ty1 (fun p F' H' ds vs' ex hp nM ho fp rl q => ?_) e1 (by rw [upd_same, hu]) hl hz lc fin
    have f1 : F' d = some (.frz od (.dT kvs)) := ex.ff _ _ upd_same
    have pd : p ≠ d := fun z => by rw [z, upd_same] at hp; cases hp
    refine ⟨ex.wf.fh _ _ f1, c p (upd F' d (.dT kvs)) (upd H' d (.dT kvs)) ds vs' ⟨ex.wf.lk (kvs := kvs) (.inr ⟨od, f1⟩), fun a o ha => ?_, fun a o nm ha => ?_, fun a ha n => ?_⟩ (by rw [upd_ne pd] at hp; exact hp) nM (by rw [upd_ne pd]; exact ho) (by rw [upd_ne pd]; exact fp) (rpL_lk (.inr ⟨od, f1⟩) w2 rl) q⟩
    · by_cases e : a = d
      · subst e; rw [hd0] at ha; rw [upd_same]; exact ha
      · rw [upd_ne e]; exact ex.ff a o (by rw [upd_ne e]; exact ha)
    · by_cases e : a = d
      · subst e
        rw [ty.wf.fh _ _ hd0] at ha
        rw [upd_same]
        exact ha
      · rw [upd_ne e]; exact ex.hh a o nm (by rw [upd_ne e]; exact ha)
    · by_cases e : a = d
      · subst e; rw [hd0] at n; cases n
      · rw [upd_ne e]; exact ex.fr a (by rw [upd_ne e]; exact ha) (by rw [upd_ne e]; exact n)
  · refine s1Of.of run ?_
    show tLc _ _ _ _ _ σ _ _
    exact (lcKN_run (od := od) (d := d) (ks := ks) (vs := vs) ty c e1 hd0 hl hz lc fin)
end
end VS
set_option Elab.async false
set_option linter.all false
set_option maxRecDepth 100000
/-! plain: tables as values (k27) -/
namespace VS
open PySem PySem.Spec L2
abbrev w37 : Str := Str.ofString "at least 3/7"
def ph__law_word37 : Ph := fun ds q _ => ds = [] ∧ ∀ x, Wd x → x ≠ w37 → q (.str x)
def ph__law_parts37 : Ph := fun ds q _ => ∃ m : Int, ds = [.int m] ∧ (0 < m ∧ m ≤ 20) ∧ ∀ lim looks rl, Vt lim looks rl → (lim : Int) ≤ m → (∀ e ∈ rl, e.2 ≠ w37) → q (ptD lim looks rl)
section
variable {lim : Nat} {looks : List Int} {rl : Al Str}
theorem asc_lenU : ∀ {l : List Int} {m : Nat}, l.Pairwise (· < ·) → (∀ z ∈ l, 1 ≤ z) → (∀ z ∈ l, z ≤ m) → l.length ≤ m
  | l, m, hp, h1, h2 => by
    have go : ∀ (l : List Int) (a : Int), l.Pairwise (· < ·) → (∀ z ∈ l, a ≤ z) → (∀ z ∈ l, z ≤ m) → (l.length : Int) ≤ max 0 (m - a + 1) := fun l => by
      induction l with
      | nil => intro a _ _ _; show (0 : Int) ≤ _; omega
      | cons x l ih =>
        intro a hp h1 h2
        obtain ⟨p1, p2⟩ := List.pairwise_cons.mp hp
        have := ih (x + 1) p2 (fun z hz => by have := p1 z hz; omega) fun z hz => h2 z (List.mem_cons_of_mem _ hz)
        have a1 := h1 x List.mem_cons_self
        have a2 := h2 x List.mem_cons_self
        rw [List.length_cons]
        omega
    have := go l 1 hp h1 h2
    omega
/-- a rule with one more row -/
def rowX (rl : Al Str) (n : Nat) : Nat → Al Str
  | 0 => rl
  | k + 1 => put (rowX rl n k) ((k : Int), (n : Int) - (k : Int)) (Str.ofString "no word")
end
end VS
namespace VS
open PySem PySem.Spec L2
def ph_Table___eq__N (C : Addr) : Ph := fun ds q _ => (∃ T1 T2 : Tb, ds = [tabD C T1, tabD C T2] ∧ (StrT T1 ∧ StrT T2) ∧ q (.bl (tbE T1 T2))) ∨ ∃ (T1 : Tb) (n : Int), ds = [tabD C T1, .int n] ∧ q (.bl false)
def ph__law_agreesV (C : Addr) : Ph := fun ds q _ => ∃ lim looks rl, ds = [tabD C (mkT lim looks rl), ptD lim looks rl] ∧ (Vt lim looks rl ∧ lim ≤ 20) ∧ q (.bl true)
def ph__law_unequal (C : Addr) : Ph := fun ds q _ => ∃ lim looks rl, ds = [tabD C (mkT lim looks rl), ptD lim looks rl] ∧ (Vt lim looks rl ∧ lim ≤ 20 ∧ ∀ e ∈ rl, e.2 ≠ w37) ∧ q (.bl true)
end VS
set_option Elab.async false
set_option linter.all false
set_option maxRecDepth 100000
/-! plain: tables accepted or refused (k26) -/
namespace VS
open PySem PySem.Spec L2
def oddW : List Str := [Str.ofString "", Str.ofString "maybe", Str.ofString "at least 2/4", Str.ofString "below 1/1", Str.ofString "At least 1/2", Str.ofString "at least 0/1"]
def WoK (x : Str) : Prop := Wd x ∨ x ∈ oddW
theorem odd_rd {x : Str} (h : x ∈ oddW) : ∃ l, x = SX.S l ∧ l.length ≤ 90000 ∧ rdWord l = none := by
  have key : ∀ y ∈ oddW, y.cps.toList.length ≤ 90000 ∧ (rdWord y.cps.toList).isNone = true := by decide +kernel
  obtain ⟨k1, k2⟩ := key x h
  exact ⟨x.cps.toList, (SX.S_tl x).symm, k1, Option.isNone_iff_eq_none.mp k2⟩
theorem odd_ok : ∀ x ∈ oddW, PyData.strOk x = true := by decide +kernel
theorem WoK.ok {x : Str} (h : WoK x) : PyData.strOk x = true := by
  rcases h with h | h
  · exact h.2
  · exact odd_ok x h
theorem WoK.wd {x : Str} (h : WoK x) (ho : x ∉ oddW) : Wd x := h.resolve_right ho
/-- an entry of the law's list -/
def enR (e : (Int × Int) × Str) : Dt := .tup [.key (kk e.1), .str e.2]
/-- the dict that the list fills -/
def dcR (R : Al Str) : Al Str := R.foldl (fun m e => put m e.1 e.2) []
theorem dcR_take {R : Al Str} {i : Nat} {e : (Int × Int) × Str} (h : R[i]? = some e) : dcR (R.take (i + 1)) = put (dcR (R.take i)) e.1 e.2 := by unfold dcR; rw [take_get h, List.foldl_append]; rfl
theorem put_keysX {α : Type} {m : Al α} {p c : Int × Int} {a : α} : c ∈ (put m p a).map (·.1) ↔ c = p ∨ c ∈ m.map (·.1) := by
  have hk : ∀ m : Al α, ∀ c, has m c = true ↔ c ∈ m.map (·.1) := fun m c => by
    unfold has
    induction m with
    | nil => simp [lk]
    | cons e m ih =>
      unfold lk
      rw [List.map_cons, List.mem_cons]
      by_cases q : e.1 = c
      · rw [if_pos q]; simp [q]
      · rw [if_neg q, ih]; simp [Ne.symm q]
  rw [← hk, ← hk]
  unfold has
  rw [lk_put]
  by_cases q : p = c
  · rw [if_pos q]; simp [q]
  · rw [if_neg q]; simp [Ne.symm q]
theorem fold_keys (L : Al Str) : ∀ (m : Al Str) (c : Int × Int), c ∈ (L.foldl (fun m e => put m e.1 e.2) m).map (·.1) ↔ c ∈ m.map (·.1) ∨ c ∈ L.map (·.1) := by
  induction L with
  | nil => intro m c; simp
  | cons e L ih =>
    intro m c
    rw [List.foldl_cons, ih, put_keysX, List.map_cons, List.mem_cons]
    constructor
    · rintro ((h | h) | h)
      · exact .inr (.inl h)
      · exact .inl h
      · exact .inr (.inr h)
    · rintro (h | h | h)
      · exact .inl (.inr h)
      · exact .inl (.inl h)
      · exact .inr h
theorem dcR_keys (R : Al Str) (c : Int × Int) : c ∈ (dcR R).map (·.1) ↔ c ∈ R.map (·.1) := by
  unfold dcR
  rw [fold_keys]
  simp
theorem put_ndK {α : Type} {m : Al α} (h : (m.map (·.1)).Nodup) (p : Int × Int) (a : α) : ((put m p a).map (·.1)).Nodup := by
  unfold put
  split
  · rw [List.map_map]
    rwa [show ((fun e : (Int × Int) × α => e.1) ∘ fun e => if e.1 = p then (e.1, a) else e) = fun e => e.1 from funext fun e => by show (if e.1 = p then (e.1, a) else e).1 = e.1; split <;> rfl]
  · rename_i q
    rw [List.map_append, List.nodup_append]
    refine ⟨h, by simp, fun x hx y hy e => ?_⟩
    rw [show y = p from List.mem_singleton.mp hy] at e
    rw [e] at hx
    obtain ⟨z, hz, hz2⟩ := List.mem_map.mp hx
    exact q (by unfold has; rw [(lk_nd_iff h).mpr (show (p, z.2) ∈ m by rw [← hz2]; exact hz)]; rfl)
theorem dcR_nd (R : Al Str) : ((dcR R).map (·.1)).Nodup := by
  unfold dcR
  have go : ∀ (L m : Al Str), (m.map (·.1)).Nodup → ((L.foldl (fun m e => put m e.1 e.2) m).map (·.1)).Nodup := fun L => by
    induction L with
    | nil => intro m h; exact h
    | cons e L ih => intro m h; exact ih _ (put_ndK h _ _)
  exact go R [] List.nodup_nil
theorem dcR_mem {R : Al Str} {p : Str → Prop} (h : ∀ e ∈ R, p e.2) : ∀ e ∈ dcR R, p e.2 := by
  unfold dcR
  have go : ∀ (L m : Al Str), (∀ e ∈ L, p e.2) → (∀ e ∈ m, p e.2) → ∀ e ∈ L.foldl (fun m e => put m e.1 e.2) m, p e.2 := fun L => by
    induction L with
    | nil => intro m _ h; exact h
    | cons d L ih =>
      intro m h1 h2
      refine ih _ (fun e he => h1 e (List.mem_cons_of_mem _ he)) fun e he => ?_
      rcases put_mem he with z | z
      · exact h2 e z
      · rw [z]; exact h1 d List.mem_cons_self
  exact go R [] h fun e he => nomatch he
theorem dcR_len (R : Al Str) : (dcR R).length ≤ R.length := by
  unfold dcR
  have go : ∀ (L m : Al Str), (L.foldl (fun m e => put m e.1 e.2) m).length ≤ m.length + L.length := fun L => by
    induction L with
    | nil => intro m; exact Nat.le_refl _
    | cons d L ih => intro m; refine Nat.le_trans (ih _) ?_; have h2 := put_len m d.1 d.2; rw [List.length_cons]; have h3 : ((fun (m : Al Str) (e : (Int × Int) × Str) => put m e.1 e.2) m d).length ≤ m.length + 1 := h2; omega
  have := go R []
  simpa using this
/-! ### faults -/
def badK (lim : Int) (looks : List Int) : Bool := decide (looks.length = 0) || decide (cf looks 0 < 1) || decide (cf looks (looks.length - 1) ≠ lim)
def badA (looks : List Int) : Bool := (List.range (looks.length - 1)).any fun k => decide (cf looks (k + 1) ≤ cf looks k)
def badC (lim : Int) (c : Int × Int) : Bool := decide (c.1 < 0) || decide (c.2 < 0) || decide (c.1 + c.2 < 1) || decide (lim < c.1 + c.2)
def badF (lim : Int) (L : List (Int × Int)) : Bool := (List.range (lim + 1).toNat).any fun w => !decide (((w : Int), lim - (w : Int)) ∈ L)
def faultX (lim : Int) (looks : List Int) (L : List (Int × Int)) : Option Str :=
  if lim < 1 ∨ 30 < lim then some (Str.ofString "limit") else if badK lim looks = true then some (Str.ofString "looks") else if badA looks = true then some (Str.ofString "looks")
  else if L.any (badC lim) = true then some (Str.ofString "rule") else if badF lim L = true then some (Str.ofString "rule") else none
theorem faultX_congr {lim : Int} {looks : List Int} {L L' : List (Int × Int)} (h : ∀ c, c ∈ L ↔ c ∈ L') : faultX lim looks L = faultX lim looks L' := by
  have e1 : L.any (badC lim) = L'.any (badC lim) := by
    refine Bool.eq_iff_iff.mpr ?_
    rw [List.any_eq_true, List.any_eq_true]
    exact ⟨fun ⟨c, h1, h2⟩ => ⟨c, (h c).mp h1, h2⟩, fun ⟨c, h1, h2⟩ => ⟨c, (h c).mpr h1, h2⟩⟩
  have e2 : badF lim L = badF lim L' := by unfold badF; simp only [h]
  unfold faultX
  rw [e1, e2]
/-- the words that are none, in order -/
def badW (lim : Nat) (G : Al Str) : List Str := (cnt lim).filterMap fun c => match lk G c with | some x => if x ∈ oddW then some x else none | none => none
def stepB (G : Al Str) (c : Int × Int) : List Str := match lk G c with | some x => if x ∈ oddW then [x] else [] | none => []
theorem badW_flat (G : Al Str) : ∀ L : List (Int × Int), (L.filterMap fun c => match lk G c with | some x => if x ∈ oddW then some x else none | none => none) = L.flatMap (stepB G)
  | [] => rfl
  | c :: L => by
    rw [List.filterMap_cons, List.flatMap_cons, badW_flat G L]
    unfold stepB
    cases lk G c with
    | none => rfl
    | some x => by_cases q : x ∈ oddW <;> simp [q]
theorem looks_good {lim : Int} {looks : List Int} (h1 : badK lim looks = false) (h2 : badA looks = false) : (∃ l', looks = l' ++ [lim]) ∧ looks.Pairwise (· < ·) ∧ ∀ z ∈ looks, 1 ≤ z := by
  unfold badK at h1
  rw [Bool.or_eq_false_iff, Bool.or_eq_false_iff, decide_eq_false_iff_not, decide_eq_false_iff_not, decide_eq_false_iff_not] at h1
  obtain ⟨⟨hn, h0⟩, hl⟩ := h1
  have hl : cf looks (looks.length - 1) = lim := Classical.not_not.mp hl
  have step : ∀ k, k + 1 < looks.length → cf looks k < cf looks (k + 1) := fun k hk => by
    unfold badA at h2
    rw [List.any_eq_false] at h2
    have := h2 k (List.mem_range.mpr (by omega))
    rw [decide_eq_true_eq] at this
    omega
  have mono : ∀ d k, k + d < looks.length → cf looks k + d ≤ cf looks (k + d) := fun d => by
    induction d with
    | zero => intro k _; simp
    | succ d ih =>
      intro k hk
      have a := ih k (by omega)
      have b := step (k + d) (by omega)
      rw [show k + (d + 1) = k + d + 1 by omega]
      omega
  have get : ∀ k, (hk : k < looks.length) → looks[k] = cf looks k := fun k hk => by unfold cf; rw [List.getD_eq_getElem?_getD, List.getElem?_eq_getElem hk]; rfl
  refine ⟨?_, ?_, fun z hz => ?_⟩
  · obtain ⟨l', z, e⟩ : ∃ l' z, looks = l' ++ [z] := by
      rcases List.eq_nil_or_concat looks with e | ⟨l', z, e⟩
      · rw [e] at hn; exact absurd rfl hn
      · exact ⟨l', z, by rw [e, List.concat_eq_append]⟩
    refine ⟨l', ?_⟩
    rw [e]
    congr 2
    rw [← hl, e]
    unfold cf
    simp
  · rw [List.pairwise_iff_getElem]
    intro i j hi hj hij
    rw [get i hi, get j hj]
    have := mono (j - i) i (by omega)
    rw [show i + (j - i) = j by omega] at this
    omega
  · obtain ⟨k, hk, rfl⟩ := List.mem_iff_getElem.mp hz
    rw [get k hk]
    have := mono k 0 (by omega)
    rw [Nat.zero_add] at this
    omega
/-- no fault, no bad word: a table -/
theorem vr_ofX {lim : Nat} {looks : List Int} {G : Al Str} (hn : (G.map (·.1)).Nodup) (hw : ∀ e ∈ G, WoK e.2) (hf : faultX lim looks (G.map (·.1)) = none) (hb : badW lim G = []) : Vr lim looks G := by
  unfold faultX at hf
  split at hf
  · cases hf
  rename_i c1
  split at hf
  · cases hf
  rename_i c2
  split at hf
  · cases hf
  rename_i c3
  split at hf
  · cases hf
  rename_i c4
  split at hf
  · cases hf
  rename_i c5
  have c2 := Bool.eq_false_iff.mpr c2
  have c3 := Bool.eq_false_iff.mpr c3
  have c4 := Bool.eq_false_iff.mpr c4
  have c5 := Bool.eq_false_iff.mpr c5
  obtain ⟨g1, g2, g3⟩ := looks_good c2 c3
  have hle : ∀ z ∈ looks, z ≤ lim := fun z hz => by
    obtain ⟨l', e⟩ := g1
    rw [e] at hz g2
    rcases List.mem_append.mp hz with h | h
    · have := (List.pairwise_append.mp g2).2.2 z h lim (by simp)
      omega
    · rw [List.mem_singleton.mp h]; exact Int.le_refl _
  have hk : ∀ e ∈ G, 0 ≤ e.1.1 ∧ 0 ≤ e.1.2 ∧ 1 ≤ e.1.1 + e.1.2 ∧ e.1.1 + e.1.2 ≤ lim := fun e he => by
    rw [List.any_eq_false] at c4
    have := c4 e.1 (List.mem_map_of_mem he)
    unfold badC at this
    simp only [Bool.or_eq_true, decide_eq_true_eq, not_or] at this
    omega
  have hlen := asc_lenU g2 g3 hle
  refine ⟨by omega, by omega, by omega, g2, g3, g1, hk, fun e he => ?_, fun j hj => ?_⟩
  · refine (hw e he).wd fun ho => ?_
    have hin : e.1 ∈ cnt lim := mem_cnt.mpr (hk e he)
    have hlk := (lk_nd_iff hn).mpr he
    have : e.2 ∈ badW lim G := List.mem_filterMap.mpr ⟨e.1, hin, by rw [hlk]; dsimp only; rw [if_pos ho]⟩
    rw [hb] at this
    cases this
  · unfold badF at c5
    rw [List.any_eq_false] at c5
    have := c5 j (List.mem_range.mpr (by omega))
    simp only [Bool.not_eq_true', Bool.not_eq_false, decide_eq_false_iff_not, Classical.not_not] at this
    obtain ⟨e, he, e1⟩ := List.mem_map.mp this
    unfold has
    rw [← e1, (lk_nd_iff hn).mpr he]
    rfl

/-! ### what the program's parts and the law's promise -/
theorem at_endX {looks : List Int} (h : looks.length ≠ 0) : atI (looks.map Dt.int) (-1) = some (.int (cf looks (looks.length - 1))) := by
  obtain ⟨l', z, e⟩ : ∃ l' z, looks = l' ++ [z] := by
    rcases List.eq_nil_or_concat looks with e | ⟨l', z, e⟩
    · rw [e] at h; exact absurd rfl h
    · exact ⟨l', z, by rw [e, List.concat_eq_append]⟩
  rw [e, at_lastC]
  unfold cf
  simp
theorem has_iffX {α : Type} {m : Al α} {c : Int × Int} : has m c = true ↔ c ∈ m.map (·.1) := by
  unfold has
  induction m with
  | nil => simp [lk]
  | cons e m ih =>
    unfold lk
    rw [List.map_cons, List.mem_cons]
    by_cases q : e.1 = c
    · rw [if_pos q]; simp [q]
    · rw [if_neg q, ih]; simp [Ne.symm q]
/-- the first bad word -/
theorem badW_hit {lim : Nat} {G : Al Str} {i j : Nat} {x : Str} (hi : i < lim) (hj : j < i + 2) (h0 : ((cnt i) ++ cRow (1 + (i : Nat)) j).flatMap (stepB G) = []) (hx : stepB G ((j : Int), 1 + (i : Int) - (j : Int)) = [x]) : ∃ l, badW lim G = x :: l := by
  have e1 : cnt lim = cnt (i + 1) ++ (cnt lim).drop (cnt (i + 1)).length := by
    have go : ∀ d, cnt (i + 1 + d) = cnt (i + 1) ++ (cnt (i + 1 + d)).drop (cnt (i + 1)).length := fun d => by
      induction d with
      | zero => simp
      | succ d ih =>
        rw [show i + 1 + (d + 1) = (i + 1 + d) + 1 by omega, cnt_succ]
        conv => lhs; rw [ih]
        rw [ih, List.append_assoc, List.append_assoc, List.drop_append_of_le_length (by simp)]
        congr 1
        rw [← List.append_assoc]
        conv => rhs; rw [List.drop_append_of_le_length (by simp)]
        simp
    have := go (lim - (i + 1))
    rwa [show i + 1 + (lim - (i + 1)) = lim by omega] at this
  have e2 : cRow (1 + (i : Int)) (i + 2) = cRow (1 + (i : Int)) (j + 1) ++ (cRow (1 + (i : Int)) (i + 2)).drop (j + 1) := by
    unfold cRow
    rw [← List.map_drop, ← List.map_append]
    congr 1
    have : (List.range (i + 2)).take (j + 1) = List.range (j + 1) := by rw [List.take_range, Nat.min_eq_left (by omega)]
    rw [← this, List.take_append_drop]
  unfold badW
  rw [badW_flat, e1, cnt_succ, e2, cRow_succ]
  rw [show ∀ (A B C D E : List (Int × Int)), (A ++ ((B ++ C) ++ D)) ++ E = (A ++ B) ++ (C ++ (D ++ E)) from fun A B C D E => by simp]
  rw [List.flatMap_append, h0, List.nil_append, List.flatMap_append]
  rw [show List.flatMap (stepB G) [((j : Int), 1 + (i : Int) - (j : Int))] = [x] by rw [List.flatMap_cons, List.flatMap_nil, hx]; rfl]
  exact ⟨_, rfl⟩
theorem badW_nil {lim : Nat} {G : Al Str} (h0 : (cnt lim).flatMap (stepB G) = []) : badW lim G = [] := by unfold badW; rw [badW_flat]; exact h0
/-- what the law holds of a table's parts -/
def StF (n : Nat) (looks : List Int) (R : Al Str) : Prop := looks.length ≤ n ∧ R.length ≤ n ∧ n ≤ 300 ∧ ∀ e ∈ R, WoK e.2
def fltD : Option Str → Dt
  | none => .non
  | some s => .str s
/-- what is handed to a table -/
def GvX (looks : List Int) (G : Al Str) : Prop := looks.length ≤ 300 ∧ G.length ≤ 300 ∧ (G.map (·.1)).Nodup ∧ ∀ e ∈ G, WoK e.2
def ph_check_tableX (CT CW : Addr) : Ph := fun ds q x => ∃ (lim : Int) (looks : List Int) (G : Al Str) (ld : Dt), ds = [.int lim, ld, dA .str G] ∧ (GvX looks G ∧ LorT ld (looks.map .int)) ∧
  (faultX lim looks (G.map (·.1)) = none → badW lim.toNat G = [] → q .non) ∧ (∀ f, faultX lim looks (G.map (·.1)) = some f → x CT ["place"] [.str f]) ∧ (∀ y l, faultX lim looks (G.map (·.1)) = none → badW lim.toNat G = y :: l → x CW ["word"] [.str y])
def ph_Table___init__X (C CT CW : Addr) : Ph := fun ds q x => ∃ (lim : Int) (looks : List Int) (G : Al Str) (ld : Dt), ds = [.int lim, ld, dA .str G] ∧ (GvX looks G ∧ LorT ld (looks.map .int)) ∧
  (faultX lim looks (G.map (·.1)) = none → badW lim.toNat G = [] → q (tabD C (mkT lim.toNat looks G))) ∧ (∀ f, faultX lim looks (G.map (·.1)) = some f → x CT ["place"] [.str f]) ∧ (∀ y l, faultX lim looks (G.map (·.1)) = none → badW lim.toNat G = y :: l → x CW ["word"] [.str y])
def ph__law_spoilX : Ph := fun ds q _ => ∃ (lim : Int) (looks : List Int) (R : Al Str) (n : Nat), ds = [.int lim, .lst (looks.map .int), .lst (R.map enR)] ∧ (StF n looks R ∧ n ≤ 100) ∧ ∀ lim' looks' R', StF (2 * n + 2) looks' R' → q (.tup [.int lim', .lst (looks'.map .int), .lst (R'.map enR)])
theorem u__law_spoilX {lim : Int} {looks : List Int} {R : Al Str} {n : Nat} {q : Dt → Prop} {x : XD} (h : StF n looks R ∧ n ≤ 100) (p : ∀ lim' looks' R', StF (2 * n + 2) looks' R' → q (.tup [.int lim', .lst (looks'.map .int), .lst (R'.map enR)])) : ph__law_spoilX [.int lim, .lst (looks.map .int), .lst (R.map enR)] q x := ⟨_, _, _, _, rfl, h, p⟩
def ph__law_faultX : Ph := fun ds q _ => ∃ (lim : Int) (looks : List Int) (R : Al Str), ds = [.int lim, .lst (looks.map .int), .lst (R.map enR)] ∧ (looks.length ≤ 300 ∧ R.length ≤ 300) ∧ q (fltD (faultX lim looks (R.map (·.1))))
theorem u__law_faultX {lim : Int} {looks : List Int} {R : Al Str} {q : Dt → Prop} {x : XD} (h : looks.length ≤ 300 ∧ R.length ≤ 300) (p : q (fltD (faultX lim looks (R.map (·.1))))) : ph__law_faultX [.int lim, .lst (looks.map .int), .lst (R.map enR)] q x := ⟨_, _, _, rfl, h, p⟩
def ph__law_bad_wordsX : Ph := fun ds q _ => ∃ (lim : Nat) (R : Al Str), ds = [.int (lim : Nat), .lst (R.map enR)] ∧ (lim ≤ 30 ∧ R.length ≤ 300 ∧ ∀ e ∈ R, WoK e.2) ∧ q (.lst ((badW lim (dcR R)).map .str))
theorem u__law_bad_wordsX {lim : Nat} {R : Al Str} {q : Dt → Prop} {x : XD} (h : lim ≤ 30 ∧ R.length ≤ 300 ∧ ∀ e ∈ R, WoK e.2) (p : q (.lst ((badW lim (dcR R)).map .str))) : ph__law_bad_wordsX [.int (lim : Nat), .lst (R.map enR)] q x := ⟨_, _, rfl, h, p⟩
def ph__law_askedX : Ph := fun ds q _ => ∃ (lim : Int) (looks : List Int) (R : Al Str) (n : Nat) (ld : Dt), ds = [.int lim, .lst (looks.map .int), ld, .lst (R.map enR)] ∧ (StF n looks R ∧ LorT ld (looks.map .int)) ∧ q (.bl true)
theorem u__law_askedX {lim : Int} {looks : List Int} {R : Al Str} {n : Nat} {ld : Dt} {q : Dt → Prop} {x : XD} (h : StF n looks R ∧ LorT ld (looks.map .int)) (p : q (.bl true)) : ph__law_askedX [.int lim, .lst (looks.map .int), ld, .lst (R.map enR)] q x := ⟨_, _, _, _, _, rfl, h, p⟩
def ph__law_agreesF : Ph := fun ds q _ => ∃ (lim : Int) (looks : List Int) (R : Al Str) (n : Nat), ds = [.int lim, .lst (looks.map .int), .lst (R.map enR)] ∧ StF n looks R ∧ q (.bl true)
theorem u__law_agreesF {lim : Int} {looks : List Int} {R : Al Str} {n : Nat} {q : Dt → Prop} {x : XD} (h : StF n looks R) (p : q (.bl true)) : ph__law_agreesF [.int lim, .lst (looks.map .int), .lst (R.map enR)] q x := ⟨_, _, _, _, rfl, h, p⟩
end VS
set_option Elab.async false
set_option linter.all false
set_option maxRecDepth 100000
set_option maxHeartbeats 4000000
namespace Lk
open PySem PySem.Spec L2 VS
local macro_rules | `(tactic| walk_at "sc") => `(tactic| first | exact True.intro | with_reducible assumption | omega | (constructor <;> omega) | exact at_cf rfl (by omega) | (rw [List.length_map]; exact ix_nat (by omega)) | (simp only [Str.length_append]; omega) | assumption | rfl | trivial | (refine mulOk' (by walk_at "sz") (by walk_at "sz") ?_; rfl))
local macro_rules | `(tactic| walk_at "sz") => `(tactic| first | assumption | exact SzR.one (by assumption) | exact SzR.two (by assumption) | exact sz_lit _ | (refine sz_mul ?_ ?_ <;> walk_at "sz") | (refine sz_add2 ?_ ?_ <;> walk_at "sz") | (refine sz_sub2 ?_ ?_ <;> walk_at "sz") | (refine sz_neg ?_ <;> walk_at "sz"))
local macro_rules | `(tactic| walk_at "szg") => `(tactic| (refine sz_up' (by walk_at "sz") ?_; rfl))
local macro_rules | `(tactic| walk_at "ok") => `(tactic| first | rfl | assumption | exact ok_ints _ | exact ok_intsT _ | simp [okN])
abbrev d_KINDS : Dt := .tup [.str "at least", .str "below"]
abbrev d_SILENT : Dt := .str "no word"
abbrev d_MOST_DIGITS : Dt := .int 30
abbrev d_MOST_TRIES : Dt := .int 30
section
variable {P : Program} {w : World} {K : PySem.W.Frag} {mg : Str → Option Value} {base : Heap}
theorem take63 {ns : List Int} (h : ns.length ≤ 63) : cutD (ns.map Dt.int) none (some 63) = ns.map Dt.int := by
  unfold cutD
  rw [HT.sIx_none, show HT.sIx (ns.map Dt.int).length (ns.map Dt.int).length (some 63) = min 63 (ns.map Dt.int).length from HT.sIx_nat _ _ 63, List.drop_zero, List.length_map, Nat.sub_zero, Nat.min_eq_right h]
  exact List.take_of_length_le (by rw [List.length_map]; exact Nat.le_refl _)
abbrev N__law_box : List Str := ["_law_script", "_law_cell"]
theorem sc__law_box : FnScope N__law_box ["_law_script"] (defScope s__law_box) := ⟨rfl, rfl, rfl, by decide +kernel, rfl, by decide +kernel, by decide +kernel⟩
theorem ok__law_box {f : Addr} {fd : FuncData} {k : Nat} (F : FD K "_law_box" "_law_box" s__law_box [] [] f fd) (m_abs : mg "abs" = none) (m_int : mg "int" = none) : FnOk P w K mg base (L2N.CX P w) (k + 1) f fd ["_law_script"] (spBox K) := by
  refine box_ok F sc__law_box fun X cdv A outer s H E ns Fr σ D hX hn ty q => ?_
  subst hX
  refine sOf.of (pss_one ps_w) (s_retBox ty ?_ q)
  refine en_lc (own := [("_law_cell", 1)]) rfl sc__law_box.nd (blkOk_by (N := N__law_box) (sc := defScope s__law_box) (by decide +kernel)) ?_
  refine i_lst ?_
  refine e_slice ?_
  refine e_v 0 ?_
  refine eo_none ?_
  refine eo_some ?_
  refine e_int ?_
  refine ⟨_, rfl, ?_⟩
  refine wsl_frl ?_
  rw [take63 hn]
  refine ⟨_, rfl, by rw [List.length_map]; omega, _, lc_map (fun _ d => match d with | .int i => .int (i.natAbs : Int) | d => d) (fun d => [(1, d)]) ?_ ?_ ?_, ?_⟩
  · intro i d hd Y hY
    obtain ⟨s', H', C, cl, fp, rfl⟩ := hY
    exact a_n 1 sc__law_box.nd
  · intro d p hp
    simp at hp
    subst hp
    simp
  · intro i d hd Y hY
    obtain ⟨s', H', C, cl, fp, rfl⟩ := hY
    rw [List.getElem?_map] at hd
    cases e : ns[i]? with
    | none => rw [e] at hd; cases hd
    | some z =>
      rw [e] at hd
      cases hd
      refine e_callB (id := "abs") (by rfl) m_abs b_abs ?_
      refine ea_cons ?_
      refine e_callTy (id := "int") (by rfl) m_int b_int ?_
      refine ea_cons ?_
      refine e_v 1 ?_
      refine ea_nil ?_
      first | refine wc_int ?_ | refine wc_intB ?_ | refine wc_intS (by walk_at "sc") (by walk_at "sc") ?_
      refine ea_nil ?_
      refine wc_abs ?_
      rfl
  · intro acc hacc
    refine ⟨ns.map fun i => (i.natAbs : Int), ?_, by rw [List.length_map]; exact hn, fun x hx => ?_⟩
    · rw [hacc, List.take_of_length_le (Nat.le_refl _), List.map_map]
      refine List.ext_getElem? fun i => ?_
      simp only [List.getElem?_mapIdx, List.getElem?_map]
      cases ns[i]? <;> rfl
    · obtain ⟨i, _, rfl⟩ := List.mem_map.mp hx
      omega

abbrev N__law_take : List Str := ["_law_box_here", "_law_size", "_law_cells", "_law_worth", "_law_at", "_law_digit", "_law_stirred"]
theorem sc__law_take : FnScope N__law_take ["_law_box_here", "_law_size"] (defScope s__law_take) := ⟨rfl, rfl, rfl, by decide +kernel, rfl, by decide +kernel, by decide +kernel⟩
theorem ok__law_take {f : Addr} {fd : FuncData} {k : Nat} {dvs : List V} {kws : List (Str × V)} (F : FD K "_law_take" "_law_take" s__law_take dvs kws f fd) (m_int : mg "int" = none) (m_len : mg "len" = none) : FnOk P w K mg base (L2N.CX P w) (k + 1) f fd ["_law_box_here", "_law_size"] (spB K 2 ph_take) := by
  refine fn_okX F sc__law_take rfl fun X cdv A outer s H E b c n ds q xd hX hr hph hl Fr wf xok => ?_
  subst hX
  obtain ⟨z, rfl, ⟨hz, hlog⟩, hq⟩ := hph
  show S _ _ _ [_, _, _, _, _, _, _] _
  refine s_cons (s_a 2 sc__law_take.nd ?_)
  refine e_ix ?_
  refine e_v 0 ?_
  refine e_int ?_
  refine wi_box0 ?_
  show S _ _ _ [_, _, _, _, _, _, _] _
  refine s_cons (s_a 3 sc__law_take.nd ?_)
  refine e_int ?_
  show S _ _ _ [_, _, _, _, _, _, _] _
  -- behind the if: worth is some int below a bound
  have fin : ∀ (g2 : Sl) (g4 g5 : Sl) (wo : Int), S (cxOf (L2N.CX P w) P w K mg base N__law_take "_law_take" (defScope s__law_take) f cdv A outer s H E) (boxR b c n) ((defBody s__law_take).drop 3) [.sh (.adr b), .sh (.int z), g2, .sh (.int wo), g4, g5, .no] { nx := fun _ => q .non, rt := q } := fun g2 g4 g5 wo => by
    refine s_cons (s_set ?_)
    refine e_bin ?_
    refine e_callTy (id := "int") (by rfl) m_int b_int ?_
    refine ea_cons ?_
    refine e_bin ?_
    refine e_bin ?_
    refine e_ix ?_
    refine e_v 0 ?_
    refine e_int ?_
    refine wi_box2 fun sd sd0 sd1 => ?_
    refine e_int ?_
    refine w_mulS (.inr ⟨by decide, by decide⟩) ?_
    refine e_v 3 ?_
    refine w_add ?_
    refine ea_nil ?_
    refine wc_int ?_
    refine e_int ?_
    refine w_mod (by omega) ?_
    refine e_v 0 ?_
    refine e_int ?_
    refine ws_box2 (Int.emod_nonneg _ (by decide)) (Int.emod_lt_of_pos _ (by decide)) ?_
    refine s_cons (s_a 6 sc__law_take.nd ?_)
    refine e_bin ?_
    refine e_callTy (id := "int") (by rfl) m_int b_int ?_
    refine ea_cons ?_
    refine e_bin ?_
    refine e_bin ?_
    refine e_ix ?_
    refine e_v 0 ?_
    refine e_int ?_
    refine wi_box2 fun se se0 se1 => ?_
    refine e_int ?_
    refine w_mulS (.inr ⟨by decide, by decide⟩) ?_
    refine e_bin ?_
    refine e_ix ?_
    refine e_v 0 ?_
    refine e_int ?_
    refine wi_box2 fun sf sf0 sf1 => ?_
    refine e_int ?_
    refine w_div ⟨by decide, by decide +kernel⟩ ?_
    refine w_add ?_
    refine ea_nil ?_
    refine wc_int ?_
    refine e_int ?_
    refine w_mod (by omega) ?_
    show S _ _ _ [_, _, _, _, _, _, _] _
    refine s_cons (s_ret ?_)
    refine e_bin ?_
    refine e_callTy (id := "int") (by rfl) m_int b_int ?_
    refine ea_cons ?_
    refine e_bin ?_
    refine e_v 6 ?_
    refine e_int ?_
    refine w_div ⟨by decide, by decide +kernel⟩ ?_
    refine ea_nil ?_
    refine wc_int ?_
    refine e_v 1 ?_
    refine w_mod hz ?_
    exact hq _ (Int.emod_nonneg _ (by omega)) (Int.emod_lt_of_pos _ hz)
  refine s_cons (s_if ?_)
  refine t_cmp ?_
  refine e_callB (id := "len") (by rfl) m_len b_len ?_
  refine ea_cons ?_
  refine e_v 2 ?_
  refine ea_nil ?_
  refine wc_lenc fun hn63 => ?_
  refine e_int ?_
  refine w_gt ⟨_, rfl, ?_⟩
  refine ite_b (fun h => ?_) (fun h => ?_)
  · have hn : (0 : Int) < (n : Int) := of_decide_eq_true h
    refine s_cons (s_a 4 sc__law_take.nd ?_)
    refine e_bin ?_
    refine e_callTy (id := "int") (by rfl) m_int b_int ?_
    refine ea_cons ?_
    refine e_ix ?_
    refine e_v 0 ?_
    refine e_int ?_
    refine wi_box1 fun pl => ?_
    refine ea_nil ?_
    refine wc_int ?_
    refine e_callB (id := "len") (by rfl) m_len b_len ?_
    refine ea_cons ?_
    refine e_v 2 ?_
    refine ea_nil ?_
    refine wc_lenc fun hn63 => ?_
    refine w_mod hn ?_
    show S _ _ _ [_, _, _, _, _, _, _] _
    have a0 := Int.emod_nonneg pl (show (n : Int) ≠ 0 by omega)
    have a1 := Int.emod_lt_of_pos pl hn
    refine s_cons (s_if ?_)
    refine t_cmp ?_
    refine e_ix ?_
    refine e_v 2 ?_
    refine e_v 4 ?_
    refine wi_cell a0 a1 fun x x0 => ?_
    refine e_bin ?_
    refine e_int ?_
    refine e_int ?_
    refine w_pow ⟨by decide, by decide, by decide⟩ ?_
    refine w_ge ⟨_, rfl, ?_⟩
    refine ite_b (fun h2 => ?_) (fun h2 => ?_)
    · refine s_cons (s_a 5 sc__law_take.nd ?_)
      refine e_bin ?_
      refine e_callTy (id := "int") (by rfl) m_int b_int ?_
      refine ea_cons ?_
      refine e_ix ?_
      refine e_v 2 ?_
      refine e_v 4 ?_
      refine wi_cell a0 a1 fun x2 x20 => ?_
      refine ea_nil ?_
      refine wc_int ?_
      refine e_v 1 ?_
      refine w_mod hz ?_
      show S _ _ _ [_, _, _, _, _, _, _] _
      refine s_cons (s_set ?_)
      refine e_bin ?_
      refine e_ix ?_
      refine e_v 2 ?_
      refine e_v 4 ?_
      refine wi_cell a0 a1 fun x3 x30 => ?_
      refine e_v 1 ?_
      refine w_div ⟨hz, hlog⟩ ?_
      refine e_v 2 ?_
      refine e_v 4 ?_
      refine ws_cell a0 a1 (Int.ediv_nonneg x30 (by omega)) ?_
      refine s_cons (s_ret ?_)
      refine e_v 5 ?_
      exact hq _ (Int.emod_nonneg _ (by omega)) (Int.emod_lt_of_pos _ hz)
    · refine s_nil ?_
      refine s_cons (s_set ?_)
      refine e_bin ?_
      refine e_ix ?_
      refine e_v 0 ?_
      refine e_int ?_
      refine wi_box1 fun pl2 => ?_
      refine e_int ?_
      refine w_add ?_
      refine e_v 0 ?_
      refine e_int ?_
      refine ws_box1 ?_
      refine s_cons (s_a 3 sc__law_take.nd ?_)
      refine e_bin ?_
      refine e_bin ?_
      refine e_ix ?_
      refine e_v 2 ?_
      refine e_v 4 ?_
      refine wi_cell a0 a1 fun x4 x40 => ?_
      refine e_int ?_
      refine w_mulS (.inr ⟨by decide, by decide⟩) ?_
      refine e_int ?_
      refine w_add ?_
      refine s_nil ?_
      exact fin _ _ _ _
  · refine s_nil ?_
    exact fin _ _ _ 11

abbrev N__law_gcd : List Str := ["_law_a", "_law_b"]
theorem sc__law_gcd : FnScope N__law_gcd ["_law_a", "_law_b"] (defScope s__law_gcd) := ⟨rfl, rfl, rfl, by decide +kernel, rfl, by decide +kernel, by decide +kernel⟩
theorem ok__law_gcd {f : Addr} {fd : FuncData} {k : Nat} {dvs : List V} {kws : List (Str × V)} (F : FD K "_law_gcd" "_law_gcd" s__law_gcd dvs kws f fd) (m_abs : mg "abs" = none) (m_int : mg "int" = none) : FnOk P w K mg base (L2N.CX P w) (k + 1) f fd ["_law_a", "_law_b"] (spD K 2 ph_gcd) := by
  refine fn_ok F sc__law_gcd rfl fun X cdv A outer s H E ds q xd hX hr hph hl Fr wf xok => ?_
  subst hX
  obtain ⟨a, b, rfl, hq⟩ := hph
  show S _ _ _ [_, _] _
  refine s_cons (s_a 0 sc__law_gcd.nd ?_)
  refine e_callB (id := "abs") (by rfl) m_abs b_abs ?_
  refine ea_cons ?_
  refine e_v 0 ?_
  refine ea_nil ?_
  refine wc_abs ?_
  show S _ _ _ [_, _] _
  refine s_cons (s_a 1 sc__law_gcd.nd ?_)
  refine e_callB (id := "abs") (by rfl) m_abs b_abs ?_
  refine ea_cons ?_
  refine e_v 1 ?_
  refine ea_nil ?_
  refine wc_abs ?_
  show S _ _ _ [_, _] _
  refine s_cons (s_while (fun m G => ∃ x y : Nat, m = y ∧ G = [.sh (.int (x : Int)), .sh (.int (y : Int))] ∧ Nat.gcd x y = Int.gcd a b) b.natAbs ⟨a.natAbs, b.natAbs, rfl, rfl, rfl⟩ (passes_of rfl) fun m G hI => ?_)
  obtain ⟨x, y, rfl, rfl, hg⟩ := hI
  refine t_cmp ?_
  refine e_v 1 ?_
  refine e_int ?_
  refine w_gt ?_
  refine ⟨_, rfl, ?_⟩
  refine ite_b (fun h => ?_) (fun h => ?_)
  · have h' : (0 : Int) < (m : Int) := of_decide_eq_true h
    refine s_one (s_par 0 1 rfl sc__law_gcd.nd rfl rfl (by decide) rfl rfl ?_ (by rfl))
    refine ea_cons ?_
    refine e_v 1 ?_
    refine ea_cons ?_
    refine e_bin ?_
    refine e_callTy (id := "int") (by rfl) m_int b_int ?_
    refine ea_cons ?_
    refine e_v 0 ?_
    refine ea_nil ?_
    first | refine wc_int ?_ | refine wc_intB ?_ | refine wc_intS (by walk_at "sc") (by walk_at "sc") ?_
    refine e_v 1 ?_
    first | refine w_mod (by decide) ?_ | refine w_mod (by walk_at "sc") ?_ | refine w_modN (by walk_at "sc") ?_
    refine ea_nil ?_
    refine ⟨_, _, rfl, ?_⟩
    refine ⟨x % m, Nat.mod_lt _ (by omega), m, x % m, rfl, rfl, ?_⟩
    rw [← hg, Nat.gcd_comm x m, Nat.gcd_rec m x, Nat.gcd_comm]
  · have h' : ¬ (0 : Int) < (m : Int) := of_decide_eq_false h
    have hm : m = 0 := by omega
    subst hm
    refine s_cons (s_ret ?_)
    refine e_v 0 ?_
    rw [Nat.gcd_zero_right] at hg
    rw [← hg] at hq
    exact hq

abbrev N__law_ratio : List Str := ["_law_num", "_law_den", "_law_divisor"]
theorem sc__law_ratio : FnScope N__law_ratio ["_law_num", "_law_den"] (defScope s__law_ratio) := ⟨rfl, rfl, rfl, by decide +kernel, rfl, by decide +kernel, by decide +kernel⟩
theorem ok__law_ratio {f : Addr} {fd : FuncData} {k : Nat} {dvs : List V} {kws : List (Str × V)} (F : FD K "_law_ratio" "_law_ratio" s__law_ratio dvs kws f fd) (c__law_gcd : Fn P w K mg base k "_law_gcd" ["_law_a", "_law_b"] [] (spD K 2 ph_gcd)) : FnOk P w K mg base (L2N.CX P w) (k + 1) f fd ["_law_num", "_law_den"] (spD K 2 ph_ratio) := by
  refine fn_ok F sc__law_ratio rfl fun X cdv A outer s H E ds q xd hX hr hph hl Fr wf xok => ?_
  subst hX
  obtain ⟨n, d, rfl, ⟨hd, hz⟩, hq⟩ := hph
  obtain ⟨hc1, hc2⟩ := gcd_logG hd hz
  show S _ _ _ [_, _, _] _
  refine s_cons (s_a 2 sc__law_ratio.nd ?_)
  refine e_call (dds := []) c__law_gcd hr (by rfl) (fun _ => .nil) ?_
  refine ea_cons ?_
  refine e_v 0 ?_
  refine ea_cons ?_
  refine e_v 1 ?_
  refine ea_nil ?_
  refine ⟨rfl, ?_⟩
  refine u_gcd (by walk_at "sc") ?_
  show S _ _ _ [_, _, _] _
  refine s_cut (fun G => G = [.sh (.int n), .sh (.int d), .sh (.int (gcdS n d))]) (s_if ?_) ?_
  · refine t_cmp ?_
    refine e_v 1 ?_
    refine e_int ?_
    refine w_lt ⟨_, rfl, ?_⟩
    refine ite_b (fun h => ?_) (fun h => ?_)
    · refine s_one (s_a 2 sc__law_ratio.nd ?_)
      refine e_un ?_
      refine e_v 2 ?_
      refine w_neg ?_
      unfold gcdS
      rw [if_pos (of_decide_eq_true h)]
      rfl
    · refine s_nil ?_
      unfold gcdS
      rw [if_neg (of_decide_eq_false h)]
  · rintro G rfl
    refine s_cons (s_ret ?_)
    refine e_tup ?_
    refine ea_cons ?_
    refine e_bin ?_
    refine e_v 0 ?_
    refine e_v 2 ?_
    refine w_divA hc1 ?_
    refine ea_cons ?_
    refine e_bin ?_
    refine e_v 1 ?_
    refine e_v 2 ?_
    refine w_divA hc2 ?_
    refine ea_nil ?_
    refine ⟨Nat.le_of_ble_eq_true rfl, ?_⟩
    exact hq

abbrev N__law_word : List Str := ["_law_box_here", "_law_pick", "_law_den", "_law_share"]
theorem sc__law_word : FnScope N__law_word ["_law_box_here"] (defScope s__law_word) := ⟨rfl, rfl, rfl, by decide +kernel, rfl, by decide +kernel, by decide +kernel⟩
theorem ok__law_word {f : Addr} {fd : FuncData} {k : Nat} {dvs : List V} {kws : List (Str × V)} (F : FD K "_law_word" "_law_word" s__law_word dvs kws f fd) (m_int : mg "int" = none) (m_str : mg "str" = none) (c__law_take : Fn P w K mg base k "_law_take" ["_law_box_here", "_law_size"] [] (spB K 2 ph_take)) (c__law_ratio : Fn P w K mg base k "_law_ratio" ["_law_num", "_law_den"] [] (spD K 2 ph_ratio)) : FnOk P w K mg base (L2N.CX P w) (k + 1) f fd ["_law_box_here"] (spB K 1 ph__law_word) := by
  refine fn_okX F sc__law_word rfl fun X cdv A outer s H E b c n ds q xd hX hr hph hl Fr wf xok => ?_
  subst hX
  obtain ⟨rfl, hq⟩ := hph
  have hl5 : (0 : Int) < 5 ∧ (5 : Int).natAbs.log2 < 9000 := ⟨by decide, by decide +kernel⟩
  have hl4 : (0 : Int) < 4 ∧ (4 : Int).natAbs.log2 < 9000 := ⟨by decide, by decide +kernel⟩
  show S _ _ _ [_, _, _, _] _
  refine s_cons (s_a 1 sc__law_word.nd ?_)
  refine e_callX c__law_take hr (by rfl) ?_
  refine ea_cons ?_
  refine e_v 0 ?_
  refine ea_cons ?_
  refine e_int ?_
  refine ea_nil ?_
  refine ⟨_, rfl, rfl, ?_⟩
  refine u_take (by walk_at "sc") ?_
  intro v1 va1 vb1
  show S _ _ _ [_, _, _, _] _
  refine s_cons (s_a 2 sc__law_word.nd ?_)
  refine e_bin ?_
  refine e_int ?_
  refine e_callX c__law_take hr (by rfl) ?_
  refine ea_cons ?_
  refine e_v 0 ?_
  refine ea_cons ?_
  refine e_int ?_
  refine ea_nil ?_
  refine ⟨_, rfl, rfl, ?_⟩
  refine u_take (by walk_at "sc") ?_
  intro v2 va2 vb2
  first | refine w_add ?_ | refine w_catT (by walk_at "sc") ?_ | refine w_addS (by walk_at "sc") ?_ | refine w_catL (by walk_at "sc") ?_
  show S _ _ _ [_, _, _, _] _
  have hlog : 0 < 2 + v2 - 1 ∧ (2 + v2 - 1).natAbs.log2 < 9000 := log9 (k := 120) (by omega) (by omega) (by decide) (by decide)
  refine s_cons (s_a 3 sc__law_word.nd ?_)
  refine e_call (dds := []) c__law_ratio hr (by rfl) (fun _ => .nil) ?_
  refine ea_cons ?_
  refine e_bin ?_
  refine e_int ?_
  refine e_callX c__law_take hr (by rfl) ?_
  refine ea_cons ?_
  refine e_v 0 ?_
  refine ea_cons ?_
  refine e_bin ?_
  refine e_v 2 ?_
  refine e_int ?_
  refine w_sub ?_
  refine ea_nil ?_
  refine ⟨_, rfl, rfl, ?_⟩
  refine u_take (by walk_at "sc") ?_
  intro v3 va3 vb3
  first | refine w_add ?_ | refine w_catT (by walk_at "sc") ?_ | refine w_addS (by walk_at "sc") ?_ | refine w_catL (by walk_at "sc") ?_
  refine ea_cons ?_
  refine e_v 2 ?_
  refine ea_nil ?_
  refine ⟨rfl, ?_⟩
  refine u_ratio ⟨by omega, sz_up (a := 110) (by omega) (by decide)⟩ ?_
  show S _ _ _ [_, _, _, _] _
  refine s_cons (s_if ?_)
  refine t_cmp ?_
  refine e_v 1 ?_
  refine e_int ?_
  first | refine w_eqI ?_ | refine w_eqT ?_ | refine w_eqB ?_ | refine w_eqD hr.units (by walk_at "ok") (by walk_at "ok") ?_
  refine ⟨_, rfl, ?_⟩
  refine ite_b (fun h => ?_) (fun h => ?_)
  · refine s_one (s_ret ?_)
    refine e_str ?_
    exact hq _ wd_no (.inl rfl)
  refine s_nil ?_
  obtain ⟨ir, er⟩ := mkR_spec (n := 1 + v3) (d := 2 + v2) (by omega)
  have le2 := mkR_le2 (n := 1 + v3) (d := 2 + v2) (by omega)
  generalize mkR (1 + v3) (2 + v2) = r at *
  obtain ⟨p, qq, rfl⟩ : ∃ p qq : Nat, r = ((p : Int), (qq : Int)) := by
    have h1 := ir.1
    have h2 : 0 ≤ r.1 := by
      have h3 : 0 ≤ r.1 * (2 + v2) := by rw [er]; exact Int.mul_nonneg (by omega) (by omega)
      exact Int.nonneg_of_mul_nonneg_left h3 (by omega)
    exact ⟨r.1.toNat, r.2.toNat, Prod.ext (by show r.1 = ((r.1.toNat : Nat) : Int); omega) (by show r.2 = ((r.2.toNat : Nat) : Int); omega)⟩
  have er' : (p : Int) * (2 + v2) = (1 + v3) * (qq : Int) := er
  have hq0 : 1 ≤ (qq : Int) := ir.1
  have hg : Nat.gcd p qq = 1 := ir.2
  have hq5 : qq ≤ 5 := by have : qq ≤ (2 + v2).natAbs := le2; omega
  have hp0 : 0 < p := by
    rcases Nat.eq_zero_or_pos p with z | z
    · rw [z] at er'
      have : 0 < (1 + v3) * (qq : Int) := Int.mul_pos (by omega) (by omega)
      rw [← er'] at this
      omega
    · exact z
  have hpq : p < qq := by
    have h1 : (p : Int) * (2 + v2) < (qq : Int) * (2 + v2) := by
      rw [er', Int.mul_comm]
      exact Int.mul_lt_mul_of_pos_left (by omega) (by omega)
    have := Int.lt_of_mul_lt_mul_right h1 (by omega)
    omega
  have hp : p < 10 ^ 32 := by omega
  have hqq : qq < 10 ^ 32 := by omega
  have slE : sizeLine = 16777216 := rfl
  have l2 : (Str.ofString "/").length = 1 := rfl
  have l3 := num_len hp
  have l4 := num_len hqq
  have gn := num_log hp
  have gd := num_log hqq
  have b1 : (0 : Int) ≤ v1 % 2 := by omega
  have b2 : v1 % 2 < 2 := by omega
  refine s_one (s_ret ?_)
  refine e_bin ?_
  refine e_bin ?_
  refine e_bin ?_
  refine e_ix ?_
  refine e_lst ?_
  refine ea_cons ?_
  refine e_str ?_
  refine ea_cons ?_
  refine e_str ?_
  refine ea_nil ?_
  refine ⟨Nat.le_of_ble_eq_true rfl, ?_⟩
  refine e_bin ?_
  refine e_callTy (id := "int") (by rfl) m_int b_int ?_
  refine ea_cons ?_
  refine e_v 1 ?_
  refine ea_nil ?_
  refine wc_int ?_
  refine e_int ?_
  refine w_mod (by decide) ?_
  refine wi_any b1 b2 fun di hdi => ?_
  obtain ⟨kd, hk, rfl⟩ : ∃ kd : Str, IsKind kd ∧ di = .str (kd ++ Str.ofString " ") := by
    simp only [List.mem_cons, List.not_mem_nil, or_false] at hdi
    rcases hdi with z | z
    · exact ⟨_, .inr rfl, by rw [z]; rfl⟩
    · exact ⟨_, .inl rfl, by rw [z]; rfl⟩
  have l5 := hk.len
  have l1 : (Str.ofString " ").length = 1 := rfl
  refine e_callTy (id := "str") (by rfl) m_str b_str ?_
  refine ea_cons ?_
  refine e_ix ?_
  refine e_v 3 ?_
  refine e_int ?_
  refine wi_tup0 ?_
  refine ea_nil ?_
  refine wc_strI gn ?_
  refine w_addS (by simp only [Str.length_append]; omega) ?_
  refine e_str ?_
  refine w_addS (by simp only [Str.length_append]; omega) ?_
  refine e_callTy (id := "str") (by rfl) m_str b_str ?_
  refine ea_cons ?_
  refine e_ix ?_
  refine e_v 3 ?_
  refine e_int ?_
  refine wi_tup1 ?_
  refine ea_nil ?_
  refine wc_strI gd ?_
  refine w_addS (by simp only [Str.length_append]; omega) ?_
  have e := wordL_S kd p qq
  rw [← e]
  exact hq _ (wd_k hk hp0 hpq (by omega) hg) (.inr ⟨kd, p, qq, hk, hp0, hpq, by omega, hg, rfl⟩)

abbrev N__law_parts : List Str := ["_law_box_here", "_law_most", "_law_limit", "_law_looks", "_law_tries", "_law_menu", "_law_rule", "_law_wins", "_law_pick", "_law_k"]
theorem sc__law_parts : FnScope N__law_parts ["_law_box_here", "_law_most"] (defScope s__law_parts) := ⟨rfl, rfl, rfl, by decide +kernel, rfl, by decide +kernel, by decide +kernel⟩
theorem ok__law_parts {f : Addr} {fd : FuncData} {k : Nat} {dvs : List V} {kws : List (Str × V)} (F : FD K "_law_parts" "_law_parts" s__law_parts dvs kws f fd) (m_int : mg "int" = none) (m_range : mg "range" = none) (c__law_take : Fn P w K mg base k "_law_take" ["_law_box_here", "_law_size"] [] (spB K 2 ph_take)) (c__law_word : Fn P w K mg base k "_law_word" ["_law_box_here"] [] (spB K 1 ph__law_word)) : FnOk P w K mg base (L2N.CX P w) (k + 1) f fd ["_law_box_here", "_law_most"] (spB K 2 ph__law_parts) := by
  refine fn_okX F sc__law_parts rfl fun X cdv A outer s H E b c n ds q xd hX hr hph hl Fr wf xok => ?_
  subst hX
  obtain ⟨m, rfl, ⟨hm0, hm1⟩, hq⟩ := hph
  have hlm : 0 < m ∧ m.natAbs.log2 < 9000 := log9 (k := 120) (by omega) (by omega) (by decide) (by decide)
  have hl3 : (0 : Int) < 3 ∧ (3 : Int).natAbs.log2 < 9000 := ⟨by decide, by decide +kernel⟩
  have hl8 : (0 : Int) < 8 ∧ (8 : Int).natAbs.log2 < 9000 := ⟨by decide, by decide +kernel⟩
  show S _ _ _ [_, _, _, _, _, _, _, _, _, _] _
  refine s_cons (s_a 2 sc__law_parts.nd ?_)
  refine e_bin ?_
  refine e_int ?_
  refine e_callX c__law_take hr (by rfl) ?_
  refine ea_cons ?_
  refine e_v 0 ?_
  refine ea_cons ?_
  refine e_v 1 ?_
  refine ea_nil ?_
  refine ⟨_, rfl, rfl, ?_⟩
  refine u_take (by walk_at "sc") ?_
  intro v1 va1 vb1
  first | refine w_add ?_ | refine w_catT (by walk_at "sc") ?_ | refine w_addS (by walk_at "sc") ?_ | refine w_catL (by walk_at "sc") ?_
  show S _ _ _ [_, _, _, _, _, _, _, _, _, _] _
  obtain ⟨lim, hlim⟩ : ∃ lim : Nat, 1 + v1 = (lim : Int) := ⟨(1 + v1).toNat, by omega⟩
  rw [hlim]
  have h1 : 1 ≤ lim := by omega
  have h30 : lim ≤ 30 := by omega
  have hml : (lim : Int) ≤ m := by omega
  refine s_cons (s_aN 3 sc__law_parts.nd (en_lst ?_))
  refine ea_nil ?_
  refine ⟨Nat.le_of_ble_eq_true rfl, ?_⟩
  show S _ _ _ [_, _, _, _, _, _, _, _, _, _] _
  refine s_cut (fun G => ∃ (l : List Int) (g4 : Sl), G = [.sh (.adr b), .sh (.int m), .sh (.int (lim : Nat)), .ow (.lst (l.map .int)), g4, .no, .no, .no, .no, .no] ∧ l.Pairwise (· < ·) ∧ (∀ z ∈ l, 1 ≤ z ∧ z < lim) ∧ l.length < lim) (s_for (passes_of rfl) rfl ?_) ?_
  · refine i_range2 (by rfl) m_range ?_
    refine ea_cons ?_
    refine e_int ?_
    refine ea_cons ?_
    refine e_v 2 ?_
    refine ea_nil ?_
    refine ⟨_, _, rfl, by omega, ?_⟩
    refine ⟨fun i G => ∃ (l : List Int) (g4 : Sl), G = [.sh (.adr b), .sh (.int m), .sh (.int (lim : Nat)), .ow (.lst (l.map .int)), g4, .no, .no, .no, .no, .no] ∧ l.Pairwise (· < ·) ∧ (∀ z ∈ l, 1 ≤ z ∧ z < 1 + (i : Nat)) ∧ l.length ≤ i, ⟨[], _, rfl, .nil, (fun z hz => nomatch hz), Nat.le_refl _⟩, ?_, ?_⟩
    · rintro i d G hd ⟨l, g4, rfl, hp, hb, hll⟩
      obtain ⟨hi, rfl⟩ := rangeD_get hd
      refine ⟨_, (a_n 4 sc__law_parts.nd), ?_⟩
      show S _ _ _ [_, _, _, _, _, _, _, _, _, _] _
      refine s_one (s_if ?_)
      refine t_cmp ?_
      refine e_callX c__law_take hr (by rfl) ?_
      refine ea_cons ?_
      refine e_v 0 ?_
      refine ea_cons ?_
      refine e_int ?_
      refine ea_nil ?_
      refine ⟨_, rfl, rfl, ?_⟩
      refine u_take (by walk_at "sc") ?_
      intro v2 va2 vb2
      refine e_int ?_
      refine w_gt ?_
      refine ⟨_, rfl, ?_⟩
      refine ite_b (fun h => ?_) (fun h => ?_)
      · have hl9 : (l.map Dt.int).length < 100000 := by rw [List.length_map]; omega
        refine s_one (s_app 3 rfl rfl (by first | exact .inl rfl | exact .inr (.inl rfl) | exact .inr (.inr rfl)) (by walk_at "sc") ?_)
        refine e_v 4 ?_
        have e : l.map Dt.int ++ [Dt.int (1 + (i : Nat))] = (l ++ [(1 : Int) + (i : Nat)]).map Dt.int := by rw [List.map_append]; rfl
        rw [e]
        refine ⟨l ++ [(1 : Int) + (i : Nat)], _, rfl, ?_, ?_, by rw [List.length_append]; show l.length + 1 ≤ i + 1; omega⟩
        · rw [List.pairwise_append]
          refine ⟨hp, List.pairwise_singleton _ _, fun x hx y hy => ?_⟩
          rw [List.mem_singleton.mp hy]
          exact (hb x hx).2
        · intro z hz
          rcases List.mem_append.mp hz with hz | hz
          · have := hb z hz; omega
          · rw [List.mem_singleton.mp hz]; omega
      · refine s_nil ?_
        exact ⟨_, _, rfl, hp, fun z hz => by have := hb z hz; omega, by omega⟩
    · rintro G ⟨l, g4, rfl, hp, hb, hll⟩
      rw [rangeD_length] at hll hb
      exact ⟨_, _, rfl, hp, fun z hz => by have := hb z hz; omega, by omega⟩
  rintro G ⟨l, g4, rfl, hp, hb, hll⟩
  have hl9 : (l.map Dt.int).length < 100000 := by rw [List.length_map]; omega
  refine s_cons (s_app 3 rfl rfl (by first | exact .inl rfl | exact .inr (.inl rfl) | exact .inr (.inr rfl)) (by walk_at "sc") ?_)
  refine e_v 2 ?_
  show S _ _ _ [_, _, _, _, _, _, _, _, _, _] _
  have e6 : l.map Dt.int ++ [Dt.int (lim : Nat)] = (l ++ [(lim : Int)]).map Dt.int := by rw [List.map_append]; rfl
  rw [e6]
  refine s_cons (s_lc 5 (own := [("_law_k", 9)]) rfl sc__law_parts.nd rfl rfl (sw_true rfl rfl rfl (by decide +kernel)) (blkOk_by (N := N__law_parts) (sc := defScope s__law_parts) (by decide +kernel)) ?_)
  refine i_range1 (by rfl) m_range ?_
  refine ea_cons ?_
  refine e_int ?_
  refine ea_nil ?_
  refine ⟨_, rfl, by walk_at "sc", by walk_at "sc", ?_⟩
  refine' ⟨?lcl1, _, lc_all (fun y => ∃ x : Str, y = .str x ∧ (Wd x ∧ SmW x)) (fun d => [(9, d)]) ?lct1 ?lcm1 ?lce1, ?lcc1⟩
  case lcl1 =>
    simp [rangeD]
  case lct1 =>
    rintro t ht Y ⟨s', H', C, cl, fp, rfl⟩
    exact (a_n 9 sc__law_parts.nd)
  case lcm1 =>
    intro t p hp
    simp at hp
    simp [hp]
  case lce1 =>
    rintro t ht Y ⟨s', H', C, cl, fp, rfl⟩
    refine e_callX c__law_word hr (by rfl) ?_
    refine ea_cons ?_
    refine e_v 0 ?_
    refine ea_nil ?_
    refine ⟨_, rfl, rfl, ?_⟩
    refine u__law_word (by walk_at "sc") ?_
    intro x3 wd3 sw3
    exact ⟨_, rfl, by assumption, by assumption⟩
  rintro acc ⟨hal, hac⟩
  obtain ⟨mn, rfl, l2, hmn⟩ := strs_of hac
  have hmn3 : mn.length = 3 := by rw [l2, hal, rangeD_length]; rfl
  show S _ _ _ [_, _, _, _, _, _, _, _, _, _] _
  refine s_cons (s_aO 6 sc__law_parts.nd (ew_dnew ?_))
  show S _ _ _ [_, _, _, _, _, _, _, _, _, _] _
  show S _ _ _ [.sh (.adr b), .sh (.int m), .sh (.int (lim : Nat)), .ow (.lst ((l ++ [(lim : Int)]).map .int)), g4, .sh (.lst (mn.map .str)), .ow (dA Dt.str []), .no, .no, .no] _
  refine s_cut (fun G => ∃ (rl : Al Str) (g4 g7 g8 : Sl), G = [.sh (.adr b), .sh (.int m), .sh (.int (lim : Nat)), .ow (.lst ((l ++ [(lim : Int)]).map .int)), g4, .sh (.lst (mn.map .str)), .ow (dA Dt.str rl), g7, g8, .no] ∧ RlM mn (cnN lim) rl ∧ ∀ j : Nat, j ≤ lim → has rl ((j : Int), (lim : Int) - j) = true) (s_for (passes_of rfl) rfl ?_) ?_
  · refine i_range2 (by rfl) m_range ?_
    refine ea_cons ?_
    refine e_int ?_
    refine ea_cons ?_
    refine e_bin ?_
    refine e_v 2 ?_
    refine e_int ?_
    refine w_add ?_
    refine ea_nil ?_
    refine ⟨_, _, rfl, by omega, ?_⟩
    refine ⟨fun i G => ∃ (rl : Al Str) (g4 g7 g8 : Sl), G = [.sh (.adr b), .sh (.int m), .sh (.int (lim : Nat)), .ow (.lst ((l ++ [(lim : Int)]).map .int)), g4, .sh (.lst (mn.map .str)), .ow (dA Dt.str rl), g7, g8, .no] ∧ RlM mn (cnN i) rl ∧ (i = lim → ∀ j : Nat, j ≤ lim → has rl ((j : Int), (lim : Int) - j) = true), ⟨[], _, _, _, rfl, RlM.nil, fun z => by omega⟩, ?_, ?_⟩
    · rintro i d G hd ⟨rl, g4, g7, g8, rfl, hrl, hfl⟩
      obtain ⟨hi, rfl⟩ := rangeD_get hd
      refine ⟨_, (a_n 4 sc__law_parts.nd), ?_⟩
      show S _ _ _ [_, _, _, _, _, _, _, _, _, _] _
      refine s_one (s_for (passes_of rfl) rfl ?_)
      refine i_range1 (by rfl) m_range ?_
      refine ea_cons ?_
      refine e_bin ?_
      refine e_v 4 ?_
      refine e_int ?_
      first | refine w_add ?_ | refine w_catT (by walk_at "sc") ?_ | refine w_addS (by walk_at "sc") ?_ | refine w_catL (by walk_at "sc") ?_
      refine ea_nil ?_
      refine ⟨_, rfl, by walk_at "sc", by walk_at "sc", ?_⟩
      refine ⟨fun j G => ∃ (rl : Al Str) (g7 g8 : Sl), G = [.sh (.adr b), .sh (.int m), .sh (.int (lim : Nat)), .ow (.lst ((l ++ [(lim : Int)]).map .int)), .sh (.int (1 + (i : Nat))), .sh (.lst (mn.map .str)), .ow (dA Dt.str rl), g7, g8, .no] ∧ RlM mn (cnN i ++ nRow i j) rl ∧ (i + 1 = lim → ∀ z : Nat, z < j → has rl ((z : Int), (lim : Int) - z) = true), ⟨rl, _, _, rfl, by rw [show nRow i 0 = [] from rfl, List.append_nil]; exact hrl, fun _ z hz => by omega⟩, ?_, ?_⟩
      · rintro j d G hd ⟨rl, g7, g8, rfl, hrl, hfl⟩
        obtain ⟨hj, rfl⟩ := rangeD_get hd
        have hlr := rl_lens hrl.1 (by omega) (by omega)
        refine ⟨_, (a_n 7 sc__law_parts.nd), ?_⟩
        show S _ _ _ [_, _, _, _, _, _, _, _, _, _] _
        refine s_cons (s_a 8 sc__law_parts.nd ?_)
        refine e_callX c__law_take hr (by rfl) ?_
        refine ea_cons ?_
        refine e_v 0 ?_
        refine ea_cons ?_
        refine e_int ?_
        refine ea_nil ?_
        refine ⟨_, rfl, rfl, ?_⟩
        refine u_take (by walk_at "sc") ?_
        intro v4 va4 vb4
        show S _ _ _ [_, _, _, _, _, _, _, _, _, _] _
        refine s_one (s_if ?_)
        refine TW.t ?_
        refine' tw_orD ?ha2 (fun hb => ?hb2) ?hc2
        case ha2 =>
          refine t_cmp ?_
          refine e_v 4 ?_
          refine e_v 2 ?_
          first | refine w_eqI ?_ | refine w_eqT ?_ | refine w_eqB ?_ | refine w_eqD hr.units (by walk_at "ok") (by walk_at "ok") ?_
          refine ⟨_, rfl, ?_⟩
          exact rfl
        case hb2 =>
          refine tw_or1 ?_
          refine t_cmp ?_
          refine e_v 8 ?_
          refine e_int ?_
          refine w_lt ?_
          refine ⟨_, rfl, ?_⟩
          exact rfl
        have b0 : 0 ≤ v4 % 3 := by omega
        have b1 : v4 % 3 < ((mn.map Dt.str).length : Nat) := by rw [List.length_map, hmn3]; omega
        have ec : (0 + (j : Nat) : Int) = j := by omega
        refine ite_b (fun h => ?_) (fun h => ?_)
        · refine s_one (s_dputA 6 hr.u1 rfl rfl (by first | exact .inl rfl | exact .inr (.inl rfl) | exact .inr (.inr rfl)) hlr ?_)
          refine e_ix ?_
          refine e_v 5 ?_
          refine e_bin ?_
          refine e_callTy (id := "int") (by rfl) m_int b_int ?_
          refine ea_cons ?_
          refine e_v 8 ?_
          refine ea_nil ?_
          refine wc_int ?_
          refine e_int ?_
          refine w_mod (by decide) ?_
          refine wi_any b0 b1 fun di hdi => ?_
          obtain ⟨x, hx, rfl⟩ := List.mem_map.mp hdi
          refine ⟨_, rfl, ?_⟩
          refine e_kk ?_
          refine ea_cons ?_
          refine e_v 7 ?_
          refine ea_cons ?_
          refine e_bin ?_
          refine e_v 4 ?_
          refine e_v 7 ?_
          refine w_sub ?_
          refine ea_nil ?_
          refine ⟨(_, _), rfl, ?_⟩
          refine ⟨_, rfl, ?_⟩
          have eP : ((0 + (j : Nat) : Int), (1 + (i : Nat) : Int) - (0 + (j : Nat))) = castP (j, i + 1 - j) := Prod.ext ec (by show (1 + (i : Nat) : Int) - (0 + (j : Nat)) = ((i + 1 - j : Nat) : Int); omega)
          rw [eP]
          have r1 := hrl.add (nRow_new (i := i) (j := j) (by omega)) hx (hmn x hx).1
          refine ⟨put rl (castP (j, i + 1 - j)) x, _, _, rfl, by rw [nRow_succ, ← List.append_assoc]; exact r1, fun hL z hz => ?_⟩
          refine has_put ?_
          by_cases e : z = j
          · right
            rw [e]
            exact Prod.ext rfl (by show ((i + 1 - j : Nat) : Int) = (lim : Int) - j; omega)
          · exact .inl (hfl hL z (by omega))
        · refine s_nil ?_
          refine ⟨rl, _, _, rfl, by rw [nRow_succ, ← List.append_assoc]; exact hrl.skip _, fun hL z hz => ?_⟩
          exfalso
          rw [Bool.or_eq_false_iff] at h
          have := of_decide_eq_false h.1
          omega
      · rintro G ⟨rl, g7, g8, rfl, hrl, hfl⟩
        rw [rangeD_length, show (1 + (i : Nat) + 1 : Int).toNat = i + 2 by omega] at hrl hfl
        refine ⟨rl, _, _, _, rfl, by rw [cnN_succ]; exact hrl, fun hL j hj => hfl hL j (by omega)⟩
    · rintro G ⟨rl, g4, g7, g8, rfl, hrl, hfl⟩
      rw [rangeD_length, show ((lim : Nat) + 1 - 1 : Int).toNat = lim by omega] at hrl hfl
      exact ⟨_, _, _, _, rfl, hrl, hfl rfl⟩
  rintro G ⟨rl, g4, g7, g8, rfl, hrl, hfl⟩
  refine s_one (s_ret ?_)
  refine e_tup ?_
  refine ea_cons ?_
  refine e_v 2 ?_
  refine ea_cons ?_
  refine e_v 3 ?_
  refine ea_cons ?_
  refine e_v 6 ?_
  refine ea_nil ?_
  refine ⟨Nat.le_of_ble_eq_true rfl, ?_⟩
  exact hq lim _ rl (vt_of h1 h30 hp hb hll hrl.1 hfl) hml ⟨mn, by omega, hrl.2, fun x hx => (hmn x hx).2⟩

theorem cut_mapX {α : Type} (f : α → Dt) (l : List α) (lo hi : Option Int) : ∃ l' : List α, cutD (l.map f) lo hi = l'.map f ∧ ∀ e ∈ l', e ∈ l :=
  ⟨(l.drop (HT.sIx (l.map f).length 0 lo)).take (HT.sIx (l.map f).length (l.map f).length hi - HT.sIx (l.map f).length 0 lo), by unfold cutD; rw [List.map_take, List.map_drop], fun _ he => List.mem_of_mem_drop (List.mem_of_mem_take he)⟩
theorem cut_lenX (xs : List Dt) (lo hi : Option Int) : (cutD xs lo hi).length ≤ xs.length := by
  unfold cutD
  rw [List.length_take, List.length_drop]
  omega
theorem cut_oneX (xs : List Dt) (a : Nat) : (cutD xs (some (a : Int)) (some ((a : Int) + 1))).length ≤ 1 := by
  unfold cutD
  rw [show (a : Int) + 1 = ((a + 1 : Nat) : Int) from rfl, HT.sIx_nat, HT.sIx_nat, List.length_take]
  omega
theorem cut_toX (xs : List Dt) (a : Nat) : (cutD xs none (some (a : Int))).length ≤ a := by
  unfold cutD
  rw [HT.sIx_nat, HT.sIx_none, List.length_take]
  omega
theorem cut_fromX (xs : List Dt) (a : Nat) : (cutD xs (some (a : Int)) none).length = xs.length - a := by
  rw [cut_from, List.length_drop]
local macro_rules | `(tactic| walk_at "sc") => `(tactic| (simp only [List.length_append, List.length_map, List.length_cons, List.length_nil, List.length_reverse]; omega))
abbrev N__law_spoil : List Str := ["_law_box_here", "_law_limit", "_law_looks", "_law_rule", "_law_pick", "_law_at", "_law_wins", "_law_odd", "_law_counts", "_law_word_here"]
theorem sc__law_spoil : FnScope N__law_spoil ["_law_box_here", "_law_limit", "_law_looks", "_law_rule"] (defScope s__law_spoil) := ⟨rfl, rfl, rfl, by decide +kernel, rfl, by decide +kernel, by decide +kernel⟩
theorem ok__law_spoil {f : Addr} {fd : FuncData} {k : Nat} {dvs : List V} {kws : List (Str × V)} (F : FD K "_law_spoil" "_law_spoil" s__law_spoil dvs kws f fd) (m_len : mg "len" = none) (m_min : mg "min" = none) (c__law_take : Fn P w K mg base k "_law_take" ["_law_box_here", "_law_size"] [] (spB K 2 ph_take)) : FnOk P w K mg base (L2N.CX P w) (k + 1) f fd ["_law_box_here", "_law_limit", "_law_looks", "_law_rule"] (spB K 4 ph__law_spoilX) := by
  refine fn_okX F sc__law_spoil rfl fun X cdv A outer s H E b c n ds q xd hX hr hph hl Fr wf xok => ?_
  subst hX
  obtain ⟨lim, looks, R, n, rfl, ⟨⟨hl, hr1, h300, hw⟩, h100⟩, hq⟩ := hph
  have hl2 : (0 : Int) < 2 ∧ (2 : Int).natAbs.log2 < 9000 := ⟨by decide, by decide +kernel⟩
  have hl4 : (0 : Int) < 4 ∧ (4 : Int).natAbs.log2 < 9000 := ⟨by decide, by decide +kernel⟩
  have hl5 : (0 : Int) < 5 ∧ (5 : Int).natAbs.log2 < 9000 := ⟨by decide, by decide +kernel⟩
  have hl6 : (0 : Int) < 6 ∧ (6 : Int).natAbs.log2 < 9000 := ⟨by decide, by decide +kernel⟩
  have hl16 : (0 : Int) < 16 ∧ (16 : Int).natAbs.log2 < 9000 := ⟨by decide, by decide +kernel⟩
  have woN : WoK (Str.ofString "no word") := .inl wd_no
  show S _ _ _ [_, _, _, _, _, _, _, _, _, _] _
  refine s_cons (s_a 4 sc__law_spoil.nd ?_)
  refine e_callX c__law_take hr (by rfl) ?_
  refine ea_cons ?_
  refine e_v 0 ?_
  refine ea_cons ?_
  refine e_int ?_
  refine ea_nil ?_
  refine ⟨_, rfl, rfl, ?_⟩
  refine u_take (by walk_at "sc") ?_
  intro v1 va1 vb1
  show S _ _ _ [_, _, _, _, _, _, _, _, _, _] _
  refine s_cut (fun G => ∃ lim' : Int, G = [.sh (.adr b), .sh (.int lim'), .sh (.lst (looks.map .int)), .sh (.lst (R.map enR)), .sh (.int v1), .no, .no, .no, .no, .no]) (s_if ?_) ?_
  · refine t_cmp ?_
    refine e_v 4 ?_
    refine e_int ?_
    first | refine w_eqI ?_ | refine w_eqT ?_ | refine w_eqB ?_ | refine w_eqD hr.units (by walk_at "ok") (by walk_at "ok") ?_
    refine ⟨_, rfl, ?_⟩
    refine ite_b (fun h => ?_) (fun h => ?_)
    · refine s_one (s_a 1 sc__law_spoil.nd ?_)
      refine e_ix ?_
      refine e_lst ?_
      refine ea_cons ?_
      refine e_int ?_
      refine ea_cons ?_
      refine e_un ?_
      refine e_int ?_
      refine w_neg ?_
      refine ea_cons ?_
      refine e_int ?_
      refine ea_cons ?_
      refine e_bin ?_
      refine e_int ?_
      refine e_int ?_
      refine w_pow ⟨by decide, by decide, by decide⟩ ?_
      refine ea_nil ?_
      refine ⟨Nat.le_of_ble_eq_true rfl, ?_⟩
      refine e_callX c__law_take hr (by rfl) ?_
      refine ea_cons ?_
      refine e_v 0 ?_
      refine ea_cons ?_
      refine e_int ?_
      refine ea_nil ?_
      refine ⟨_, rfl, rfl, ?_⟩
      refine u_take (by walk_at "sc") ?_
      intro v2 va2 vb2
      refine wi_any (by omega) (by simp only [List.length_cons, List.length_nil]; omega) fun di hdi => ?_
      obtain ⟨z, rfl⟩ : ∃ z : Int, di = .int z := by
        simp only [List.mem_cons, List.not_mem_nil, or_false] at hdi
        rcases hdi with rfl | rfl | rfl | rfl <;> exact ⟨_, rfl⟩
      exact ⟨z, rfl⟩
    · exact s_nil ⟨_, rfl⟩
  rintro G ⟨lim', rfl⟩
  have hml : (looks.map Dt.int).length = looks.length := List.length_map _
  have cm1 := cut_lenX (looks.map Dt.int) none (some (-1))
  rw [hml] at cm1
  obtain ⟨lc, elc, -⟩ := cut_mapX Dt.int looks none (some (-1))
  refine s_cut (fun G => ∃ looks' : List Int, G = [.sh (.adr b), .sh (.int lim'), .sh (.lst (looks'.map .int)), .sh (.lst (R.map enR)), .sh (.int v1), .no, .no, .no, .no, .no] ∧ looks'.length ≤ 2 * n + 1) (s_if ?_) ?_
  · refine t_cmp ?_
    refine e_v 4 ?_
    refine e_int ?_
    first | refine w_eqI ?_ | refine w_eqT ?_ | refine w_eqB ?_ | refine w_eqD hr.units (by walk_at "ok") (by walk_at "ok") ?_
    refine ⟨_, rfl, ?_⟩
    refine ite_b (fun h => ?_) (fun h => ?_)
    · refine s_one (s_a 2 sc__law_spoil.nd ?_)
      refine e_ix ?_
      refine e_lst ?_
      refine ea_cons ?_
      refine e_lst ?_
      refine ea_nil ?_
      refine ⟨Nat.le_of_ble_eq_true rfl, ?_⟩
      refine ea_cons ?_
      refine e_bin ?_
      refine e_lst ?_
      refine ea_cons ?_
      refine e_int ?_
      refine ea_nil ?_
      refine ⟨Nat.le_of_ble_eq_true rfl, ?_⟩
      refine e_v 2 ?_
      first | refine w_add ?_ | refine w_catT (by walk_at "sc") ?_ | refine w_addS (by walk_at "sc") ?_ | refine w_catL (by walk_at "sc") ?_
      refine ea_cons ?_
      refine e_slice ?_
      refine e_v 2 ?_
      refine eo_none ?_
      refine eo_some ?_
      refine e_un ?_
      refine e_int ?_
      refine w_neg ?_
      refine ⟨_, rfl, ?_⟩
      first | refine wsl_lst ?_ | refine wsl_tup ?_ | refine wsl_str (by walk_at "sc") ?_
      refine ea_cons ?_
      refine e_bin ?_
      refine e_v 2 ?_
      refine e_v 2 ?_
      first | refine w_add ?_ | refine w_catT (by walk_at "sc") ?_ | refine w_addS (by walk_at "sc") ?_ | refine w_catL (by walk_at "sc") ?_
      refine ea_cons ?_
      refine e_bin ?_
      refine e_v 2 ?_
      refine e_lst ?_
      refine ea_cons ?_
      refine e_bin ?_
      refine e_v 1 ?_
      refine e_int ?_
      first | refine w_add ?_ | refine w_catT (by walk_at "sc") ?_ | refine w_addS (by walk_at "sc") ?_ | refine w_catL (by walk_at "sc") ?_
      refine ea_nil ?_
      refine ⟨Nat.le_of_ble_eq_true rfl, ?_⟩
      first | refine w_add ?_ | refine w_catT (by walk_at "sc") ?_ | refine w_addS (by walk_at "sc") ?_ | refine w_catL (by walk_at "sc") ?_
      refine ea_cons ?_
      refine e_bin ?_
      refine e_lst ?_
      refine ea_cons ?_
      refine e_un ?_
      refine e_int ?_
      refine w_neg ?_
      refine ea_nil ?_
      refine ⟨Nat.le_of_ble_eq_true rfl, ?_⟩
      refine e_v 2 ?_
      first | refine w_add ?_ | refine w_catT (by walk_at "sc") ?_ | refine w_addS (by walk_at "sc") ?_ | refine w_catL (by walk_at "sc") ?_
      refine ea_nil ?_
      refine ⟨Nat.le_of_ble_eq_true rfl, ?_⟩
      refine e_callX c__law_take hr (by rfl) ?_
      refine ea_cons ?_
      refine e_v 0 ?_
      refine ea_cons ?_
      refine e_int ?_
      refine ea_nil ?_
      refine ⟨_, rfl, rfl, ?_⟩
      refine u_take (by walk_at "sc") ?_
      intro v3 va3 vb3
      refine wi_any (by omega) (by simp only [List.length_cons, List.length_nil]; omega) fun di hdi => ?_
      obtain ⟨l', rfl, hl'⟩ : ∃ l' : List Int, di = .lst (l'.map .int) ∧ l'.length ≤ 2 * n + 1 := by
        simp only [List.mem_cons, List.not_mem_nil, or_false] at hdi
        rcases hdi with rfl | rfl | rfl | rfl | rfl | rfl
        · exact ⟨[], rfl, Nat.zero_le _⟩
        · exact ⟨0 :: looks, rfl, by rw [List.length_cons]; omega⟩
        · exact ⟨lc, by rw [elc], by rw [elc, List.length_map] at cm1; omega⟩
        · exact ⟨looks ++ looks, by rw [List.map_append], by rw [List.length_append]; omega⟩
        · exact ⟨looks ++ [lim' + 1], by rw [List.map_append]; rfl, by rw [List.length_append, List.length_singleton]; omega⟩
        · exact ⟨-2 :: looks, rfl, by rw [List.length_cons]; omega⟩
      exact ⟨l', rfl, hl'⟩
    · exact s_nil ⟨_, rfl, by omega⟩
  rintro G ⟨looks, rfl, hl⟩
  refine s_cut (fun G => ∃ looks' : List Int, G = [.sh (.adr b), .sh (.int lim'), .sh (.lst (looks'.map .int)), .sh (.lst (R.map enR)), .sh (.int v1), .no, .no, .no, .no, .no] ∧ looks'.length ≤ 2 * n + 1) (s_if ?_) ?_
  · refine t_cmp ?_
    refine e_v 4 ?_
    refine e_int ?_
    first | refine w_eqI ?_ | refine w_eqT ?_ | refine w_eqB ?_ | refine w_eqD hr.units (by walk_at "ok") (by walk_at "ok") ?_
    refine ⟨_, rfl, ?_⟩
    refine ite_b (fun h => ?_) (fun h => ?_)
    · refine s_one (s_a 2 sc__law_spoil.nd ?_)
      refine e_rev ?_
      refine e_v 2 ?_
      refine ⟨_, rfl, ?_⟩
      exact ⟨looks.reverse, by rw [List.map_reverse]; rfl, by rw [List.length_reverse]; exact hl⟩
    · exact s_nil ⟨_, rfl, hl⟩
  rintro G ⟨looks, rfl, hl⟩
  refine s_cut (fun G => ∃ (looks' : List Int) (g5 : Sl), G = [.sh (.adr b), .sh (.int lim'), .sh (.lst (looks'.map .int)), .sh (.lst (R.map enR)), .sh (.int v1), g5, .no, .no, .no, .no] ∧ looks'.length ≤ 2 * n + 2) (s_if ?_) ?_
  · refine t_cmp ?_
    refine e_v 4 ?_
    refine e_int ?_
    first | refine w_eqI ?_ | refine w_eqT ?_ | refine w_eqB ?_ | refine w_eqD hr.units (by walk_at "ok") (by walk_at "ok") ?_
    refine ⟨_, rfl, ?_⟩
    refine ite_b (fun h => ?_) (fun h => ?_)
    · have hll : (0 : Int) < (((looks.map Dt.int).length : Nat) : Int) + 1 ∧ ((((looks.map Dt.int).length : Nat) : Int) + 1).natAbs.log2 < 9000 := log9 (k := 501) (by omega) (by rw [List.length_map]; omega) (by decide) (by decide)
      refine s_cons (s_a 5 sc__law_spoil.nd ?_)
      refine e_callX c__law_take hr (by rfl) ?_
      refine ea_cons ?_
      refine e_v 0 ?_
      refine ea_cons ?_
      refine e_bin ?_
      refine e_callB (id := "len") (by rfl) m_len b_len ?_
      refine ea_cons ?_
      refine e_v 2 ?_
      refine ea_nil ?_
      first | refine wc_len_lst ?_ | refine wc_len_tup ?_ | refine wc_len_str (by walk_at "sc") ?_ | refine wc_lenc (fun hn63 => ?_)
      refine e_int ?_
      first | refine w_add ?_ | refine w_catT (by walk_at "sc") ?_ | refine w_addS (by walk_at "sc") ?_ | refine w_catL (by walk_at "sc") ?_
      refine ea_nil ?_
      refine ⟨_, rfl, rfl, ?_⟩
      refine u_take (by walk_at "sc") ?_
      intro v4 va4 vb4
      show S _ _ _ [_, _, _, _, _, _, _, _, _, _] _
      rw [List.length_map] at vb4
      obtain ⟨a, rfl⟩ := Int.eq_ofNat_of_zero_le va4
      have c1 := cut_toX (looks.map Dt.int) a
      have c2 := cut_oneX (looks.map Dt.int) a
      have c3 := cut_fromX (looks.map Dt.int) a
      rw [List.length_map] at c3
      obtain ⟨l1, e1, -⟩ := cut_mapX Dt.int looks none (some ((a : Nat) : Int))
      obtain ⟨l2, e2, -⟩ := cut_mapX Dt.int looks (some ((a : Nat) : Int)) (some (((a : Nat) : Int) + 1))
      obtain ⟨l3, e3, -⟩ := cut_mapX Dt.int looks (some ((a : Nat) : Int)) none
      refine s_one (s_a 2 sc__law_spoil.nd ?_)
      refine e_bin ?_
      refine e_bin ?_
      refine e_slice ?_
      refine e_v 2 ?_
      refine eo_none ?_
      refine eo_some ?_
      refine e_v 5 ?_
      refine ⟨_, rfl, ?_⟩
      first | refine wsl_lst ?_ | refine wsl_tup ?_ | refine wsl_str (by walk_at "sc") ?_
      refine e_slice ?_
      refine e_v 2 ?_
      refine eo_some ?_
      refine e_v 5 ?_
      refine ⟨_, rfl, ?_⟩
      refine eo_some ?_
      refine e_bin ?_
      refine e_v 5 ?_
      refine e_int ?_
      first | refine w_add ?_ | refine w_catT (by walk_at "sc") ?_ | refine w_addS (by walk_at "sc") ?_ | refine w_catL (by walk_at "sc") ?_
      refine ⟨_, rfl, ?_⟩
      first | refine wsl_lst ?_ | refine wsl_tup ?_ | refine wsl_str (by walk_at "sc") ?_
      first | refine w_add ?_ | refine w_catT (by walk_at "sc") ?_ | refine w_addS (by walk_at "sc") ?_ | refine w_catL (by walk_at "sc") ?_
      refine e_slice ?_
      refine e_v 2 ?_
      refine eo_some ?_
      refine e_v 5 ?_
      refine ⟨_, rfl, ?_⟩
      refine eo_none ?_
      first | refine wsl_lst ?_ | refine wsl_tup ?_ | refine wsl_str (by walk_at "sc") ?_
      first | refine w_add ?_ | refine w_catT (by walk_at "sc") ?_ | refine w_addS (by walk_at "sc") ?_ | refine w_catL (by walk_at "sc") ?_
      refine ⟨l1 ++ l2 ++ l3, _, by rw [e1, e2, e3, ← List.map_append, ← List.map_append]; rfl, ?_⟩
      rw [e1, List.length_map] at c1
      rw [e2, List.length_map] at c2
      rw [e3, List.length_map] at c3
      rw [List.length_append, List.length_append]
      omega
    · exact s_nil ⟨_, _, rfl, by omega⟩
  rintro G ⟨looks, g5, rfl, hl⟩
  refine s_cut (fun G => ∃ (R' : Al Str) (g6 : Sl), G = [.sh (.adr b), .sh (.int lim'), .sh (.lst (looks.map .int)), .sh (.lst (R'.map enR)), .sh (.int v1), g5, g6, .no, .no, .no] ∧ R'.length ≤ n ∧ ∀ e ∈ R', WoK e.2) (s_if ?_) ?_
  · refine TW.t ?_
    refine' tw_andD ?ha3 (fun hb => ?hb3) ?hc3
    case ha3 =>
      refine t_cmp ?_
      refine e_v 4 ?_
      refine e_int ?_
      first | refine w_eqI ?_ | refine w_eqT ?_ | refine w_eqB ?_ | refine w_eqD hr.units (by walk_at "ok") (by walk_at "ok") ?_
      refine ⟨_, rfl, ?_⟩
      exact rfl
    case hb3 =>
      refine tw_and1 ?_
      refine t_cmp ?_
      refine e_v 1 ?_
      refine e_int ?_
      refine w_ge ?_
      refine ⟨_, rfl, ?_⟩
      exact rfl
    refine ite_b (fun h => ?_) (fun h => ?_)
    · have h1 : 1 ≤ lim' := by rw [Bool.and_eq_true] at h; exact of_decide_eq_true h.2
      have hmn : (0 : Int) < min lim' 40 + 1 ∧ (min lim' 40 + 1).natAbs.log2 < 9000 := log9 (k := 501) (by omega) (Nat.lt_of_le_of_lt (show _ ≤ 41 by omega) (by decide)) (by decide) (by decide)
      refine s_cons (s_a 6 sc__law_spoil.nd ?_)
      refine e_callX c__law_take hr (by rfl) ?_
      refine ea_cons ?_
      refine e_v 0 ?_
      refine ea_cons ?_
      refine e_bin ?_
      refine e_callB (id := "min") (by rfl) m_min b_min ?_
      refine ea_cons ?_
      refine e_v 1 ?_
      refine ea_cons ?_
      refine e_int ?_
      refine ea_nil ?_
      refine wc_min rfl ?_
      refine e_int ?_
      first | refine w_add ?_ | refine w_catT (by walk_at "sc") ?_ | refine w_addS (by walk_at "sc") ?_ | refine w_catL (by walk_at "sc") ?_
      refine ea_nil ?_
      refine ⟨_, rfl, rfl, ?_⟩
      refine u_take (by walk_at "sc") ?_
      intro v5 va5 vb5
      show S _ _ _ [_, _, _, _, _, _, _, _, _, _] _
      refine s_one (s_lc 3 (own := [("_law_counts", 8), ("_law_word_here", 9)]) rfl sc__law_spoil.nd rfl rfl (sw_true rfl rfl rfl (by decide +kernel)) (blkOk_by (N := N__law_spoil) (sc := defScope s__law_spoil) (by decide +kernel)) ?_)
      refine i_lst ?_
      refine e_v 3 ?_
      refine ⟨_, rfl, ?_⟩
      refine' ⟨?lcl4, _, lc_if (R) (enR) (enR) (fun e => !eqD (.tup [.int e.1.1, .int e.1.2]) (.tup [.int v5, .int (lim' - v5)])) (fun e => [(8, Dt.key (kk e.1)), (9, Dt.str e.2)]) ?lct4 ?lcm4 ?lcf4 ?lce4, ?lcc4⟩
      case lcl4 =>
        rw [List.length_map]; omega
      case lct4 =>
        rintro t ht Y ⟨s', H', C, cl, fp, rfl⟩
        exact (a_tup rfl (as_cons (a_n 8 sc__law_spoil.nd) (as_cons (a_n 9 sc__law_spoil.nd) as_nil)))
      case lcm4 =>
        intro t p hp
        simp at hp
        rcases hp with hp | hp <;> simp [hp]
      case lcf4 =>
        rintro t ht Y ⟨s', H', C, cl, fp, rfl⟩
        refine t_cmp ?_
        refine e_v 8 ?_
        refine e_tup ?_
        refine ea_cons ?_
        refine e_v 6 ?_
        refine ea_cons ?_
        refine e_bin ?_
        refine e_v 1 ?_
        refine e_v 6 ?_
        refine w_sub ?_
        refine ea_nil ?_
        refine ⟨Nat.le_of_ble_eq_true rfl, ?_⟩
        (refine w_keyL ?_; refine w_neD hr.units rfl rfl ?_)
        refine ⟨_, rfl, ?_⟩
        rfl
      case lce4 =>
        rintro t ht hf Y ⟨s', H', C, cl, fp, rfl⟩
        refine e_tup ?_
        refine ea_cons ?_
        refine e_v 8 ?_
        refine ea_cons ?_
        refine e_v 9 ?_
        refine ea_nil ?_
        refine ⟨Nat.le_of_ble_eq_true rfl, ?_⟩
        rfl
      rintro acc rfl
      rw [take_map_all]
      refine ⟨R.filter fun e => !eqD (.tup [.int e.1.1, .int e.1.2]) (.tup [.int v5, .int (lim' - v5)]), _, rfl, Nat.le_trans (List.length_filter_le _ _) hr1, fun e he => hw e (List.mem_filter.mp he).1⟩
    · exact s_nil ⟨_, _, rfl, hr1, hw⟩
  rintro G ⟨R, g6, rfl, hr1, hw⟩
  refine s_cut (fun G => ∃ (R' : Al Str), G = [.sh (.adr b), .sh (.int lim'), .sh (.lst (looks.map .int)), .sh (.lst (R'.map enR)), .sh (.int v1), g5, g6, .no, .no, .no] ∧ R'.length ≤ n + 1 ∧ ∀ e ∈ R', WoK e.2) (s_if ?_) ?_
  · refine t_cmp ?_
    refine e_v 4 ?_
    refine e_int ?_
    first | refine w_eqI ?_ | refine w_eqT ?_ | refine w_eqB ?_ | refine w_eqD hr.units (by walk_at "ok") (by walk_at "ok") ?_
    refine ⟨_, rfl, ?_⟩
    refine ite_b (fun h => ?_) (fun h => ?_)
    · skip
      refine s_one (s_a 3 sc__law_spoil.nd ?_)
      refine e_bin ?_
      refine e_v 3 ?_
      refine e_lst ?_
      refine ea_cons ?_
      refine e_tup ?_
      refine ea_cons ?_
      refine e_ix ?_
      refine e_lst ?_
      refine ea_cons ?_
      refine e_kk ?_
      refine ea_cons ?_
      refine e_int ?_
      refine ea_cons ?_
      refine e_int ?_
      refine ea_nil ?_
      refine ⟨(_, _), rfl, ?_⟩
      refine ea_cons ?_
      refine e_kk ?_
      refine ea_cons ?_
      refine e_un ?_
      refine e_int ?_
      refine w_neg ?_
      refine ea_cons ?_
      refine e_int ?_
      refine ea_nil ?_
      refine ⟨(_, _), rfl, ?_⟩
      refine ea_cons ?_
      refine e_kk ?_
      refine ea_cons ?_
      refine e_int ?_
      refine ea_cons ?_
      refine e_un ?_
      refine e_int ?_
      refine w_neg ?_
      refine ea_nil ?_
      refine ⟨(_, _), rfl, ?_⟩
      refine ea_cons ?_
      refine e_kk ?_
      refine ea_cons ?_
      refine e_v 1 ?_
      refine ea_cons ?_
      refine e_int ?_
      refine ea_nil ?_
      refine ⟨(_, _), rfl, ?_⟩
      refine ea_cons ?_
      refine e_kk ?_
      refine ea_cons ?_
      refine e_int ?_
      refine ea_cons ?_
      refine e_bin ?_
      refine e_v 1 ?_
      refine e_int ?_
      first | refine w_add ?_ | refine w_catT (by walk_at "sc") ?_ | refine w_addS (by walk_at "sc") ?_ | refine w_catL (by walk_at "sc") ?_
      refine ea_nil ?_
      refine ⟨(_, _), rfl, ?_⟩
      refine ea_nil ?_
      refine ⟨Nat.le_of_ble_eq_true rfl, ?_⟩
      refine e_callX c__law_take hr (by rfl) ?_
      refine ea_cons ?_
      refine e_v 0 ?_
      refine ea_cons ?_
      refine e_int ?_
      refine ea_nil ?_
      refine ⟨_, rfl, rfl, ?_⟩
      refine u_take (by walk_at "sc") ?_
      intro v6 va6 vb6
      refine wi_any (by omega) (by simp only [List.length_cons, List.length_nil]; omega) fun di hdi => ?_
      refine ea_cons ?_
      refine e_str ?_
      refine ea_nil ?_
      refine ⟨Nat.le_of_ble_eq_true rfl, ?_⟩
      refine ea_nil ?_
      refine ⟨Nat.le_of_ble_eq_true rfl, ?_⟩
      first | refine w_add ?_ | refine w_catT (by walk_at "sc") ?_ | refine w_addS (by walk_at "sc") ?_ | refine w_catL (by walk_at "sc") ?_
      obtain ⟨c, rfl⟩ : ∃ c : Int × Int, di = .key (kk c) := by
        simp only [List.mem_cons, List.not_mem_nil, or_false] at hdi
        rcases hdi with rfl | rfl | rfl | rfl | rfl <;> exact ⟨(_, _), rfl⟩
      refine ⟨R ++ [(c, Str.ofString "no word")], by rw [List.map_append]; rfl, by rw [List.length_append, List.length_singleton]; omega, fun e he => ?_⟩
      rcases List.mem_append.mp he with z | z
      · exact hw e z
      · rw [List.mem_singleton.mp z]; exact woN
    · exact s_nil ⟨_, rfl, by omega, hw⟩
  rintro G ⟨R, rfl, hr1, hw⟩
  refine s_cut (fun G => ∃ (R' : Al Str) (g5' g7 : Sl), G = [.sh (.adr b), .sh (.int lim'), .sh (.lst (looks.map .int)), .sh (.lst (R'.map enR)), .sh (.int v1), g5', g6, g7, .no, .no] ∧ R'.length ≤ n + 1 ∧ ∀ e ∈ R', WoK e.2) (s_if ?_) ?_
  · refine TW.t ?_
    refine' tw_andD ?ha5 (fun hb => ?hb5) ?hc5
    case ha5 =>
      refine t_cmp ?_
      refine e_v 4 ?_
      refine e_int ?_
      refine w_ge ?_
      refine ⟨_, rfl, ?_⟩
      exact rfl
    case hb5 =>
      refine' tw_andD ?ha6 (fun hb => ?hb6) ?hc6
      case ha6 =>
        refine t_cmp ?_
        refine e_v 4 ?_
        refine e_int ?_
        refine w_lt ?_
        refine ⟨_, rfl, ?_⟩
        exact rfl
      case hb6 =>
        refine tw_and1 ?_
        refine t_cmp ?_
        refine e_callB (id := "len") (by rfl) m_len b_len ?_
        refine ea_cons ?_
        refine e_v 3 ?_
        refine ea_nil ?_
        first | refine wc_len_lst ?_ | refine wc_len_tup ?_ | refine wc_len_str (by walk_at "sc") ?_ | refine wc_lenc (fun hn63 => ?_)
        refine e_int ?_
        refine w_gt ?_
        refine ⟨_, rfl, ?_⟩
        exact rfl
      exact rfl
    refine ite_b (fun h => ?_) (fun h => ?_)
    · have h0 : 0 < R.length := by
        rw [Bool.and_eq_true, Bool.and_eq_true] at h
        have := of_decide_eq_true h.2.2
        rw [List.length_map] at this
        omega
      have hll : (0 : Int) < (((R.map enR).length : Nat) : Int) ∧ (((R.map enR).length : Nat) : Int).natAbs.log2 < 9000 := log9 (k := 501) (by rw [List.length_map]; omega) (by rw [List.length_map]; omega) (by decide) (by decide)
      refine s_cons (s_a 7 sc__law_spoil.nd ?_)
      refine e_ix ?_
      refine e_lst ?_
      refine ea_cons ?_
      refine e_str ?_
      refine ea_cons ?_
      refine e_str ?_
      refine ea_cons ?_
      refine e_str ?_
      refine ea_cons ?_
      refine e_str ?_
      refine ea_cons ?_
      refine e_str ?_
      refine ea_cons ?_
      refine e_str ?_
      refine ea_nil ?_
      refine ⟨Nat.le_of_ble_eq_true rfl, ?_⟩
      refine e_callX c__law_take hr (by rfl) ?_
      refine ea_cons ?_
      refine e_v 0 ?_
      refine ea_cons ?_
      refine e_int ?_
      refine ea_nil ?_
      refine ⟨_, rfl, rfl, ?_⟩
      refine u_take (by walk_at "sc") ?_
      intro v7 va7 vb7
      refine wi_any (by omega) (by simp only [List.length_cons, List.length_nil]; omega) fun di hdi => ?_
      show S _ _ _ [_, _, _, _, _, _, _, _, _, _] _
      obtain ⟨x, rfl, hx⟩ : ∃ x : Str, di = .str x ∧ x ∈ oddW := by
        simp only [List.mem_cons, List.not_mem_nil, or_false] at hdi
        rcases hdi with rfl | rfl | rfl | rfl | rfl | rfl <;> exact ⟨_, rfl, by decide⟩
      refine s_cons (s_a 5 sc__law_spoil.nd ?_)
      refine e_callX c__law_take hr (by rfl) ?_
      refine ea_cons ?_
      refine e_v 0 ?_
      refine ea_cons ?_
      refine e_callB (id := "len") (by rfl) m_len b_len ?_
      refine ea_cons ?_
      refine e_v 3 ?_
      refine ea_nil ?_
      first | refine wc_len_lst ?_ | refine wc_len_tup ?_ | refine wc_len_str (by walk_at "sc") ?_ | refine wc_lenc (fun hn63 => ?_)
      refine ea_nil ?_
      refine ⟨_, rfl, rfl, ?_⟩
      refine u_take (by walk_at "sc") ?_
      intro v8 va8 vb8
      show S _ _ _ [_, _, _, _, _, _, _, _, _, _] _
      rw [List.length_map] at vb8
      obtain ⟨a, rfl⟩ := Int.eq_ofNat_of_zero_le va8
      have ha : a < R.length := by omega
      obtain ⟨e0, he0⟩ : ∃ e, R[a]? = some e := ⟨R[a], List.getElem?_eq_getElem ha⟩
      have al : atI (R.map enR) (a : Nat) = some (enR e0) := atI_nat (by rw [List.getElem?_map, he0]; rfl)
      have c1 := cut_toX (R.map enR) a
      have c3 : (cutD (R.map enR) (some (((a : Nat) : Int) + 1)) none).length = (R.map enR).length - (a + 1) := cut_fromX (R.map enR) (a + 1)
      rw [List.length_map] at c3
      obtain ⟨l1, e1, m1⟩ := cut_mapX enR R none (some ((a : Nat) : Int))
      obtain ⟨l3, e3, m3⟩ := cut_mapX enR R (some (((a : Nat) : Int) + 1)) none
      refine s_one (s_a 3 sc__law_spoil.nd ?_)
      refine e_bin ?_
      refine e_bin ?_
      refine e_slice ?_
      refine e_v 3 ?_
      refine eo_none ?_
      refine eo_some ?_
      refine e_v 5 ?_
      refine ⟨_, rfl, ?_⟩
      first | refine wsl_lst ?_ | refine wsl_tup ?_ | refine wsl_str (by walk_at "sc") ?_
      refine e_lst ?_
      refine ea_cons ?_
      refine e_tup ?_
      refine ea_cons ?_
      refine e_ix ?_
      refine e_ix ?_
      refine e_v 3 ?_
      refine e_v 5 ?_
      refine wi_lst al ?_
      refine e_int ?_
      first | refine wi_tup0 ?_ | refine wi_tup1 ?_ | refine wi_tup2 ?_ | refine wi_tup (by walk_at "sc") ?_ | refine wi_lst (by walk_at "sc") ?_ | refine wi_str (by walk_at "sc") (by walk_at "sc") ?_
      refine ea_cons ?_
      refine e_v 7 ?_
      refine ea_nil ?_
      refine ⟨Nat.le_of_ble_eq_true rfl, ?_⟩
      refine ea_nil ?_
      refine ⟨Nat.le_of_ble_eq_true rfl, ?_⟩
      first | refine w_add ?_ | refine w_catT (by walk_at "sc") ?_ | refine w_addS (by walk_at "sc") ?_ | refine w_catL (by walk_at "sc") ?_
      refine e_slice ?_
      refine e_v 3 ?_
      refine eo_some ?_
      refine e_bin ?_
      refine e_v 5 ?_
      refine e_int ?_
      first | refine w_add ?_ | refine w_catT (by walk_at "sc") ?_ | refine w_addS (by walk_at "sc") ?_ | refine w_catL (by walk_at "sc") ?_
      refine ⟨_, rfl, ?_⟩
      refine eo_none ?_
      first | refine wsl_lst ?_ | refine wsl_tup ?_ | refine wsl_str (by walk_at "sc") ?_
      first | refine w_add ?_ | refine w_catT (by walk_at "sc") ?_ | refine w_addS (by walk_at "sc") ?_ | refine w_catL (by walk_at "sc") ?_
      refine ⟨l1 ++ [(e0.1, x)] ++ l3, _, _, by rw [e1, e3, List.map_append, List.map_append]; rfl, ?_, fun e he => ?_⟩
      · rw [e1, List.length_map] at c1
        rw [e3, List.length_map] at c3
        rw [List.length_append, List.length_append, List.length_singleton]
        omega
      · rcases List.mem_append.mp he with z | z
        · rcases List.mem_append.mp z with z | z
          · exact hw e (m1 e z)
          · rw [List.mem_singleton.mp z]; exact .inr hx
        · exact hw e (m3 e z)
    · exact s_nil ⟨_, _, _, rfl, hr1, hw⟩
  rintro G ⟨R, g5, g7, rfl, hr1, hw⟩
  refine s_one (s_ret ?_)
  refine e_tup ?_
  refine ea_cons ?_
  refine e_v 1 ?_
  refine ea_cons ?_
  refine e_v 2 ?_
  refine ea_cons ?_
  refine e_v 3 ?_
  refine ea_nil ?_
  refine ⟨Nat.le_of_ble_eq_true rfl, ?_⟩
  exact hq lim' looks R ⟨hl, by omega, by omega, hw⟩

theorem fltX_eq {R : Al Str} (c : Int × Int) : (R.map fun e : (Int × Int) × Str => Dt.tup [.int e.1.1, .int e.1.2]).any (fun z => eqD z (.tup [.int c.1, .int c.2])) = decide (c ∈ R.map (·.1)) := by
  refine Bool.eq_iff_iff.mpr ?_
  rw [List.any_eq_true, decide_eq_true_eq, List.mem_map]
  have key : ∀ e : (Int × Int) × Str, eqD (.tup [.int e.1.1, .int e.1.2]) (.tup [.int c.1, .int c.2]) = true ↔ e.1 = c := fun e => by
    have : eqD (.tup ([e.1.1, e.1.2].map Dt.int)) (.tup ([c.1, c.2].map Dt.int)) = decide ([e.1.1, e.1.2] = [c.1, c.2]) := eqD_intsT _ _
    rw [show eqD (.tup [.int e.1.1, .int e.1.2]) (.tup [.int c.1, .int c.2]) = decide ([e.1.1, e.1.2] = [c.1, c.2]) from this, decide_eq_true_eq]
    simp only [List.cons.injEq, and_true]
    exact Prod.ext_iff.symm
  constructor
  · rintro ⟨z, hz, he⟩
    obtain ⟨e, h1, rfl⟩ := List.mem_map.mp hz
    exact ⟨e, h1, (key e).mp he⟩
  · rintro ⟨e, h1, h2⟩
    exact ⟨_, List.mem_map_of_mem h1, (key e).mpr h2⟩
abbrev N__law_fault : List Str := ["_law_limit", "_law_looks", "_law_rule", "_law_k", "_law_counts", "_law_wins", "_law_losses", "_law_one", "_law_word_here"]
theorem sc__law_fault : FnScope N__law_fault ["_law_limit", "_law_looks", "_law_rule"] (defScope s__law_fault) := ⟨rfl, rfl, rfl, by decide +kernel, rfl, by decide +kernel, by decide +kernel⟩
theorem ok__law_fault {f : Addr} {fd : FuncData} {k : Nat} {dvs : List V} {kws : List (Str × V)} (F : FD K "_law_fault" "_law_fault" s__law_fault dvs kws f fd) (m_len : mg "len" = none) (m_range : mg "range" = none) : FnOk P w K mg base (L2N.CX P w) (k + 1) f fd ["_law_limit", "_law_looks", "_law_rule"] (spD K 3 ph__law_faultX) := by
  refine fn_ok F sc__law_fault rfl fun X cdv A outer s H E ds q xd hX hr hph hl Fr wf xok => ?_
  subst hX
  obtain ⟨lim, looks, R, rfl, ⟨hll, hrl⟩, hq⟩ := hph
  show S _ _ _ [_, _, _, _, _, _, _, _, _] _
  refine s_cons (s_if ?_)
  refine TW.t ?_
  refine' tw_orD ?ha7 (fun hb => ?hb7) ?hc7
  case ha7 =>
    refine t_cmp ?_
    refine e_v 0 ?_
    refine e_int ?_
    refine w_lt ?_
    refine ⟨_, rfl, ?_⟩
    exact rfl
  case hb7 =>
    refine tw_or1 ?_
    refine t_cmp ?_
    refine e_v 0 ?_
    refine e_int ?_
    refine w_gt ?_
    refine ⟨_, rfl, ?_⟩
    exact rfl
  refine ite_b (fun h => ?_) (fun h => ?_)
  · refine s_one (s_ret ?_)
    refine e_str ?_
    have e : faultX lim looks (R.map (·.1)) = some (Str.ofString "limit") := by
      unfold faultX
      rw [if_pos]
      simpa using h
    rw [e] at hq
    exact hq
  have hl : 1 ≤ lim ∧ lim ≤ 30 := by
    simp at h
    omega
  clear h
  obtain ⟨n, rfl⟩ : ∃ n : Nat, lim = (n : Int) := ⟨lim.toNat, by omega⟩
  have hl1 : 1 ≤ n := by omega
  have hl30 : n ≤ 30 := by omega
  have nl : ¬ ((n : Int) < 1 ∨ 30 < (n : Int)) := by omega
  refine s_nil ?_
  have a0 : looks.length ≠ 0 → atI (looks.map Dt.int) 0 = some (.int (cf looks 0)) := fun z => at_cf rfl (by omega)
  have a1 : looks.length ≠ 0 → atI (looks.map Dt.int) (-1) = some (.int (cf looks (looks.length - 1))) := at_endX
  have cnv2 : ∀ z : Int, decide (z = 0) = false → z = ((looks.map Dt.int).length : Nat) → looks.length ≠ 0 := fun z h1 h2 e => by rw [h2, List.length_map, e] at h1; cases h1
  refine s_cons (s_if ?_)
  refine TW.t ?_
  refine' tw_orD ?ha8 (fun hb => ?hb8) ?hc8
  case ha8 =>
    refine t_cmp ?_
    refine e_callB (id := "len") (by rfl) m_len b_len ?_
    refine ea_cons ?_
    refine e_v 1 ?_
    refine ea_nil ?_
    first | refine wc_len_lst ?_ | refine wc_len_tup ?_ | refine wc_len_str (by walk_at "sc") ?_ | refine wc_lenc (fun hn63 => ?_)
    refine e_int ?_
    first | refine w_eqI ?_ | refine w_eqT ?_ | refine w_eqB ?_ | refine w_eqD hr.units (by walk_at "ok") (by walk_at "ok") ?_
    refine ⟨_, rfl, ?_⟩
    exact rfl
  case hb8 =>
    refine' tw_orD ?ha9 (fun hb => ?hb9) ?hc9
    case ha9 =>
      refine t_cmp ?_
      refine e_ix ?_
      refine e_v 1 ?_
      refine e_int ?_
      refine wi_lst (a0 (cnv2 _ hb rfl)) ?_
      refine e_int ?_
      refine w_lt ?_
      refine ⟨_, rfl, ?_⟩
      exact rfl
    case hb9 =>
      refine tw_or1 ?_
      refine t_cmp ?_
      refine e_ix ?_
      refine e_v 1 ?_
      refine e_un ?_
      refine e_int ?_
      refine w_neg ?_
      refine wi_lst (a1 (cnv2 _ (by assumption) rfl)) ?_
      refine e_v 0 ?_
      first | refine w_neI ?_ | refine w_neT ?_ | refine w_neB ?_ | refine w_neD hr.units (by walk_at "ok") (by walk_at "ok") ?_
      refine ⟨_, rfl, ?_⟩
      exact rfl
    exact rfl
  refine ite_b (fun h => ?_) (fun h => ?_)
  · refine s_one (s_ret ?_)
    refine e_str ?_
    have e : faultX (n : Int) looks (R.map (·.1)) = some (Str.ofString "looks") := by
      unfold faultX
      rw [if_neg nl, if_pos]
      unfold badK
      simp only [List.length_map, Bool.or_eq_true, decide_eq_true_eq, Bool.not_eq_true', decide_eq_false_iff_not] at h ⊢
      rcases h with h | h | h
      · exact .inl (.inl (by omega))
      · exact .inl (.inr h)
      · exact .inr h
    rw [e] at hq
    exact hq
  have hbk : badK (n : Int) looks = false := by
    unfold badK
    simp only [List.length_map, Bool.or_eq_false_iff, decide_eq_false_iff_not, Bool.not_eq_false', decide_eq_true_eq] at h ⊢
    exact ⟨⟨by omega, h.2.1⟩, fun z => z h.2.2⟩
  have hne : looks.length ≠ 0 := by
    simp only [List.length_map, Bool.or_eq_false_iff, decide_eq_false_iff_not] at h
    omega
  clear h
  refine s_nil ?_
  have rr : ((looks.map Dt.int).length : Int) - 1 = ((looks.length - 1 : Nat) : Int) := by rw [List.length_map]; omega
  have rb : -(2 ^ 62) ≤ ((looks.map Dt.int).length : Int) - 1 := by rw [rr]; omega
  have rb2 : ((looks.map Dt.int).length : Int) - 1 < 2 ^ 62 := by rw [rr]; omega
  refine s_cons (s_for (passes_of rfl) rfl ?_)
  refine i_range1 (by rfl) m_range ?_
  refine ea_cons ?_
  refine e_bin ?_
  refine e_callB (id := "len") (by rfl) m_len b_len ?_
  refine ea_cons ?_
  refine e_v 1 ?_
  refine ea_nil ?_
  first | refine wc_len_lst ?_ | refine wc_len_tup ?_ | refine wc_len_str (by walk_at "sc") ?_ | refine wc_lenc (fun hn63 => ?_)
  refine e_int ?_
  refine w_sub ?_
  refine ea_nil ?_
  refine ⟨_, rfl, by walk_at "sc", by walk_at "sc", ?_⟩
  refine ⟨fun i G => ∃ g3, G = [.sh (.int (n : Nat)), .sh (.lst (looks.map .int)), .sh (.lst (R.map enR)), g3, .no, .no, .no, .no, .no] ∧ (List.range i).any (fun k => decide (cf looks (k + 1) ≤ cf looks k)) = false, ⟨_, rfl, rfl⟩, ?_, ?_⟩
  · rintro i d G hd ⟨g3, rfl, hfn⟩
    obtain ⟨hi, rfl⟩ := rangeD_get hd
    rw [rr] at hi
    have hi : i < looks.length - 1 := by omega
    rw [Int.zero_add]
    refine ⟨_, (a_n 3 sc__law_fault.nd), ?_⟩
    show S _ _ _ [_, _, _, _, _, _, _, _, _] _
    refine s_one (s_if ?_)
    refine t_cmp ?_
    refine e_ix ?_
    refine e_v 1 ?_
    refine e_v 3 ?_
    refine wi_lst (at_cf rfl (by omega)) ?_
    refine e_ix ?_
    refine e_v 1 ?_
    refine e_bin ?_
    refine e_v 3 ?_
    refine e_int ?_
    first | refine w_add ?_ | refine w_catT (by walk_at "sc") ?_ | refine w_addS (by walk_at "sc") ?_ | refine w_catL (by walk_at "sc") ?_
    refine wi_lst (at_cf (j := i + 1) (by omega) (by omega)) ?_
    refine w_ge ?_
    refine ⟨_, rfl, ?_⟩
    refine ite_b (fun h => ?_) (fun h => ?_)
    · refine s_one (s_ret ?_)
      refine e_str ?_
      have e : faultX (n : Int) looks (R.map (·.1)) = some (Str.ofString "looks") := by
        unfold faultX
        have hA : badA looks = true := List.any_eq_true.mpr ⟨i, List.mem_range.mpr hi, h⟩
        rw [if_neg nl, hbk, if_neg (by decide), hA, if_pos rfl]
      rw [e] at hq
      exact hq
    · exact s_nil ⟨_, rfl, by rw [List.range_succ, List.any_append, hfn]; simpa using h⟩
  rintro G ⟨g3, rfl, hfn⟩
  have hba : badA looks = false := by
    rw [rangeD_length, rr] at hfn
    exact hfn
  refine s_cons (s_lc 4 (own := [("_law_one", 7), ("_law_word_here", 8)]) rfl sc__law_fault.nd rfl rfl (sw_true rfl rfl rfl (by decide +kernel)) (blkOk_by (N := N__law_fault) (sc := defScope s__law_fault) (by decide +kernel)) ?_)
  refine i_lst ?_
  refine e_v 2 ?_
  refine ⟨_, rfl, ?_⟩
  refine' ⟨?lcl10, _, lc_of (R) (enR) (fun e => Dt.tup [.int e.1.1, .int e.1.2]) (fun e => [(7, Dt.key (kk e.1)), (8, Dt.str e.2)]) ?lct10 ?lcm10 ?lce10, ?lcc10⟩
  case lcl10 =>
    rw [List.length_map]; omega
  case lct10 =>
    rintro t ht Y ⟨s', H', C, cl, fp, rfl⟩
    exact (a_tup rfl (as_cons (a_n 7 sc__law_fault.nd) (as_cons (a_n 8 sc__law_fault.nd) as_nil)))
  case lcm10 =>
    intro t p hp
    simp at hp
    rcases hp with hp | hp <;> simp [hp]
  case lce10 =>
    rintro t ht Y ⟨s', H', C, cl, fp, rfl⟩
    refine e_asK ?_
    refine e_v 7 ?_
    refine ⟨_, rfl, ?_⟩
    rfl
  rintro acc rfl
  rw [take_map_all]
  refine s_cons (s_for (passes_of rfl) rfl ?_)
  refine i_lst ?_
  refine e_v 4 ?_
  refine ⟨_, rfl, ?_⟩
  refine ⟨fun i G => ∃ g5 g6, G = [.sh (.int (n : Nat)), .sh (.lst (looks.map .int)), .sh (.lst (R.map enR)), g3, .sh (.lst (R.map fun e => Dt.tup [.int e.1.1, .int e.1.2])), g5, g6, .no, .no] ∧ ((R.map (·.1)).take i).any (badC n) = false, ⟨_, _, rfl, rfl⟩, ?_, ?_⟩
  · rintro i d G hd ⟨g5, g6, rfl, hfn⟩
    obtain ⟨e, he, hi, rfl⟩ : ∃ e ∈ R, (R.map (·.1))[i]? = some e.1 ∧ d = Dt.tup [.int e.1.1, .int e.1.2] := by
      rw [List.getElem?_map] at hd
      cases z : R[i]? with
      | none => rw [z] at hd; cases hd
      | some e => rw [z] at hd; exact ⟨e, List.mem_of_getElem? z, by rw [List.getElem?_map, z]; rfl, (Option.some.inj hd).symm⟩
    have htk := take_get hi
    refine ⟨_, (a_tup rfl (as_cons (a_n 5 sc__law_fault.nd) (as_cons (a_n 6 sc__law_fault.nd) as_nil))), ?_⟩
    show S _ _ _ [_, _, _, _, _, _, _, _, _] _
    show S _ _ _ [_, _, _, _, _, _, _, _, _] _
    refine s_one (s_if ?_)
    refine TW.t ?_
    refine' tw_orD ?ha11 (fun hb => ?hb11) ?hc11
    case ha11 =>
      refine t_cmp ?_
      refine e_v 5 ?_
      refine e_int ?_
      refine w_lt ?_
      refine ⟨_, rfl, ?_⟩
      exact rfl
    case hb11 =>
      refine' tw_orD ?ha12 (fun hb => ?hb12) ?hc12
      case ha12 =>
        refine t_cmp ?_
        refine e_v 6 ?_
        refine e_int ?_
        refine w_lt ?_
        refine ⟨_, rfl, ?_⟩
        exact rfl
      case hb12 =>
        refine' tw_orD ?ha13 (fun hb => ?hb13) ?hc13
        case ha13 =>
          refine t_cmp ?_
          refine e_bin ?_
          refine e_v 5 ?_
          refine e_v 6 ?_
          first | refine w_add ?_ | refine w_catT (by walk_at "sc") ?_ | refine w_addS (by walk_at "sc") ?_ | refine w_catL (by walk_at "sc") ?_
          refine e_int ?_
          refine w_lt ?_
          refine ⟨_, rfl, ?_⟩
          exact rfl
        case hb13 =>
          refine tw_or1 ?_
          refine t_cmp ?_
          refine e_bin ?_
          refine e_v 5 ?_
          refine e_v 6 ?_
          first | refine w_add ?_ | refine w_catT (by walk_at "sc") ?_ | refine w_addS (by walk_at "sc") ?_ | refine w_catL (by walk_at "sc") ?_
          refine e_v 0 ?_
          refine w_gt ?_
          refine ⟨_, rfl, ?_⟩
          exact rfl
        exact rfl
      exact rfl
    have eB : (decide (e.1.1 < 0) || (decide (e.1.2 < 0) || (decide (e.1.1 + e.1.2 < 1) || decide (e.1.1 + e.1.2 > (n : Int))))) = badC n e.1 := by
      unfold badC
      refine Bool.eq_iff_iff.mpr ?_
      simp only [Bool.or_eq_true, decide_eq_true_eq]
      omega
    rw [eB]
    refine ite_b (fun h => ?_) (fun h => ?_)
    · refine s_one (s_ret ?_)
      refine e_str ?_
      have e : faultX (n : Int) looks (R.map (·.1)) = some (Str.ofString "rule") := by
        unfold faultX
        rw [if_neg nl, hbk, if_neg (by decide), hba, if_neg (by decide), if_pos (List.any_eq_true.mpr ⟨e.1, List.mem_map_of_mem he, h⟩)]
      rw [e] at hq
      exact hq
    · exact s_nil ⟨_, _, rfl, by rw [htk, List.any_append, hfn]; simp [h]⟩
  rintro G ⟨g5, g6, rfl, hfn⟩
  have hbc : (R.map (·.1)).any (badC n) = false := by
    rwa [show (R.map fun e : (Int × Int) × Str => Dt.tup [.int e.1.1, .int e.1.2]).length = (R.map (·.1)).length by rw [List.length_map, List.length_map], List.take_length] at hfn
  have okL : okD (.lst (R.map fun e : (Int × Int) × Str => Dt.tup [.int e.1.1, .int e.1.2])) = true := by
    rw [show (R.map fun e : (Int × Int) × Str => Dt.tup [.int e.1.1, .int e.1.2]) = (R.map (·.1)).map ratD by rw [List.map_map]; rfl]
    exact ok_pairs _
  refine s_cons (s_for (passes_of rfl) rfl ?_)
  refine i_range1 (by rfl) m_range ?_
  refine ea_cons ?_
  refine e_bin ?_
  refine e_v 0 ?_
  refine e_int ?_
  first | refine w_add ?_ | refine w_catT (by walk_at "sc") ?_ | refine w_addS (by walk_at "sc") ?_ | refine w_catL (by walk_at "sc") ?_
  refine ea_nil ?_
  refine ⟨_, rfl, by walk_at "sc", by walk_at "sc", ?_⟩
  refine ⟨fun i G => ∃ g5, G = [.sh (.int (n : Nat)), .sh (.lst (looks.map .int)), .sh (.lst (R.map enR)), g3, .sh (.lst (R.map fun e => Dt.tup [.int e.1.1, .int e.1.2])), g5, g6, .no, .no] ∧ (List.range i).any (fun w : Nat => !decide (((w : Int), (n : Int) - (w : Int)) ∈ R.map (·.1))) = false, ⟨_, rfl, rfl⟩, ?_, ?_⟩
  · rintro i d G hd ⟨g5, rfl, hfn⟩
    obtain ⟨hi, rfl⟩ := rangeD_get hd
    rw [Int.zero_add]
    have okt : okD (.tup [.int (i : Nat), .int ((n : Int) - (i : Nat))]) = true := rfl
    refine ⟨_, (a_n 5 sc__law_fault.nd), ?_⟩
    show S _ _ _ [_, _, _, _, _, _, _, _, _] _
    refine s_one (s_if ?_)
    refine t_cmp ?_
    refine e_tup ?_
    refine ea_cons ?_
    refine e_v 5 ?_
    refine ea_cons ?_
    refine e_bin ?_
    refine e_v 0 ?_
    refine e_v 5 ?_
    refine w_sub ?_
    refine ea_nil ?_
    refine ⟨Nat.le_of_ble_eq_true rfl, ?_⟩
    refine e_v 4 ?_
    refine w_notInD hr.u65 okt okL ?_
    refine ⟨_, rfl, ?_⟩
    rw [fltX_eq ((i : Int), (n : Int) - (i : Int))]
    refine ite_b (fun h => ?_) (fun h => ?_)
    · refine s_one (s_ret ?_)
      refine e_str ?_
      have e : faultX (n : Int) looks (R.map (·.1)) = some (Str.ofString "rule") := by
        unfold faultX
        rw [if_neg nl, hbk, if_neg (by decide), hba, if_neg (by decide), hbc, if_neg (by decide), if_pos]
        unfold badF
        exact List.any_eq_true.mpr ⟨i, List.mem_range.mpr (by omega), h⟩
      rw [e] at hq
      exact hq
    · exact s_nil ⟨_, rfl, by rw [List.range_succ, List.any_append, hfn]; simpa using h⟩
  rintro G ⟨g5, rfl, hfn⟩
  have hbf : badF n (R.map (·.1)) = false := by
    unfold badF
    rw [rangeD_length] at hfn
    exact hfn
  have e : faultX (n : Int) looks (R.map (·.1)) = none := by
    unfold faultX
    rw [if_neg nl, hbk, if_neg (by decide), hba, if_neg (by decide), hbc, if_neg (by decide), hbf, if_neg (by decide)]
  rw [e] at hq
  refine s_one (s_ret ?_)
  refine e_none ?_
  exact hq

abbrev N__law_bad_words : List Str := ["_law_limit", "_law_rule", "_law_odd", "_law_words", "_law_counts", "_law_word_here", "_law_found", "_law_tries", "_law_wins"]
theorem sc__law_bad_words : FnScope N__law_bad_words ["_law_limit", "_law_rule"] (defScope s__law_bad_words) := ⟨rfl, rfl, rfl, by decide +kernel, rfl, by decide +kernel, by decide +kernel⟩
theorem ok__law_bad_words {f : Addr} {fd : FuncData} {k : Nat} {dvs : List V} {kws : List (Str × V)} (F : FD K "_law_bad_words" "_law_bad_words" s__law_bad_words dvs kws f fd) (m_range : mg "range" = none) : FnOk P w K mg base (L2N.CX P w) (k + 1) f fd ["_law_limit", "_law_rule"] (spD K 2 ph__law_bad_wordsX) := by
  refine fn_ok F sc__law_bad_words rfl fun X cdv A outer s H E ds q xd hX hr hph hl Fr wf xok => ?_
  subst hX
  obtain ⟨lim, R, rfl, ⟨h30, hrl, hwk⟩, hq⟩ := hph
  show S _ _ _ [_, _, _, _, _, _, _, _, _] _
  refine s_cons (s_a 2 sc__law_bad_words.nd ?_)
  refine e_lst ?_
  refine ea_cons ?_
  refine e_str ?_
  refine ea_cons ?_
  refine e_str ?_
  refine ea_cons ?_
  refine e_str ?_
  refine ea_cons ?_
  refine e_str ?_
  refine ea_cons ?_
  refine e_str ?_
  refine ea_cons ?_
  refine e_str ?_
  refine ea_nil ?_
  refine ⟨Nat.le_of_ble_eq_true rfl, ?_⟩
  show S _ _ _ [_, _, _, _, _, _, _, _, _] _
  refine s_cons (s_aO 3 sc__law_bad_words.nd (ew_dnew ?_))
  show S _ _ _ [_, _, _, _, _, _, _, _, _] _
  refine s_cons (s_for (passes_of rfl) rfl ?_)
  refine i_lst ?_
  refine e_v 1 ?_
  refine ⟨_, rfl, ?_⟩
  refine ⟨fun i G => ∃ g4 g5 : Sl, G = [.sh (.int (lim : Nat)), .sh (.lst (R.map enR)), .sh (.lst (oddW.map .str)), .ow (dA .str (dcR (R.take i))), g4, g5, .no, .no, .no], ⟨_, _, rfl⟩, ?_, ?_⟩
  · rintro i d G hd ⟨g4, g5, rfl⟩
    obtain ⟨e, he, rfl⟩ : ∃ e, R[i]? = some e ∧ d = enR e := by
      rw [List.getElem?_map] at hd
      cases z : R[i]? with
      | none => rw [z] at hd; cases hd
      | some e => rw [z] at hd; exact ⟨e, rfl, (Option.some.inj hd).symm⟩
    have hl9 : (dcR (R.take i)).length < 100000 := by
      have := dcR_len (R.take i)
      have := List.length_take_le' i R
      omega
    refine ⟨_, (a_tup rfl (as_cons (a_n 4 sc__law_bad_words.nd) (as_cons (a_n 5 sc__law_bad_words.nd) as_nil))), ?_⟩
    show S _ _ _ [_, _, _, _, _, _, _, _, _] _
    refine s_one (s_dputA 3 hr.u1 rfl rfl (by first | exact .inl rfl | exact .inr (.inl rfl) | exact .inr (.inr rfl)) (by walk_at "sc") ?_)
    refine e_v 5 ?_
    refine ⟨_, rfl, ?_⟩
    refine e_v 4 ?_
    refine ⟨_, rfl, ?_⟩
    rw [← dcR_take he]
    exact ⟨_, _, rfl⟩
  rintro G ⟨g4, g5, rfl⟩
  rw [List.length_map, List.take_length]
  refine s_frz1 3 rfl ?_
  have okw : ∀ e ∈ dcR R, PyData.strOk e.2 = true := dcR_mem (p := fun y => PyData.strOk y = true) fun e he => (hwk e he).ok
  have okL : okD (.lst (oddW.map .str)) = true := ok_strs odd_ok
  have hcl := cnt_len h30
  generalize dcR R = D at *
  have lenF : ∀ L : List (Int × Int), (L.flatMap (stepB D)).length ≤ L.length := fun L => by
    induction L with
    | nil => exact Nat.le_refl _
    | cons c L ih =>
      rw [List.flatMap_cons, List.length_append, List.length_cons]
      have : (stepB D c).length ≤ 1 := by unfold stepB; cases lk D c with | none => decide | some x => dsimp only; split <;> first | exact Nat.le_refl 1 | exact Nat.zero_le 1
      omega
  refine s_cons (s_aN 6 sc__law_bad_words.nd (en_lst ?_))
  refine ea_nil ?_
  refine ⟨Nat.le_of_ble_eq_true rfl, ?_⟩
  show S _ _ _ [_, _, _, _, _, _, _, _, _] _
  refine s_cons (s_for (passes_of rfl) rfl ?_)
  refine i_range2 (by rfl) m_range ?_
  refine ea_cons ?_
  refine e_int ?_
  refine ea_cons ?_
  refine e_bin ?_
  refine e_v 0 ?_
  refine e_int ?_
  first | refine w_add ?_ | refine w_catT (by walk_at "sc") ?_ | refine w_addS (by walk_at "sc") ?_ | refine w_catL (by walk_at "sc") ?_
  refine ea_nil ?_
  refine ⟨_, _, rfl, by walk_at "sc", ?_⟩
  refine ⟨fun i G => ∃ g7 g8 : Sl, G = [.sh (.int (lim : Nat)), .sh (.lst (R.map enR)), .sh (.lst (oddW.map .str)), .sh (dA .str D), g4, g5, .ow (.lst (((cnt i).flatMap (stepB D)).map .str)), g7, g8], ⟨_, _, rfl⟩, ?_, ?_⟩
  · rintro i d G hd ⟨g7, g8, rfl⟩
    obtain ⟨hi, rfl⟩ := rangeD_get hd
    refine ⟨_, (a_n 7 sc__law_bad_words.nd), ?_⟩
    show S _ _ _ [_, _, _, _, _, _, _, _, _] _
    refine s_one (s_for (passes_of rfl) rfl ?_)
    refine i_range1 (by rfl) m_range ?_
    refine ea_cons ?_
    refine e_bin ?_
    refine e_v 7 ?_
    refine e_int ?_
    first | refine w_add ?_ | refine w_catT (by walk_at "sc") ?_ | refine w_addS (by walk_at "sc") ?_ | refine w_catL (by walk_at "sc") ?_
    refine ea_nil ?_
    refine ⟨_, rfl, by walk_at "sc", by walk_at "sc", ?_⟩
    refine ⟨fun j G => ∃ g8 : Sl, G = [.sh (.int (lim : Nat)), .sh (.lst (R.map enR)), .sh (.lst (oddW.map .str)), .sh (dA .str D), g4, g5, .ow (.lst (((cnt i ++ cRow (1 + (i : Nat)) j).flatMap (stepB D)).map .str)), .sh (.int (1 + (i : Nat))), g8], ⟨_, by rw [show cRow (1 + (i : Nat)) 0 = [] from rfl, List.append_nil]⟩, ?_, ?_⟩
    · rintro j d G hd ⟨g8, rfl⟩
      obtain ⟨hj, rfl⟩ := rangeD_get hd
      have nxt : (cnt i ++ cRow (1 + (i : Nat)) (j + 1)).flatMap (stepB D) = (cnt i ++ cRow (1 + (i : Nat)) j).flatMap (stepB D) ++ stepB D ((j : Int), 1 + (i : Int) - (j : Int)) := by
        rw [cRow_succ, ← List.append_assoc, List.flatMap_append, List.flatMap_cons, List.flatMap_nil, List.append_nil]
      have hl5 : ((cnt i ++ cRow (1 + (i : Nat)) j).flatMap (stepB D)).length ≤ 900 := by
        have := lenF (cnt i ++ cRow (1 + (i : Nat)) j)
        rw [List.length_append] at this
        have h2 := cnt_len (n := i) (by omega)
        have h3 : (cRow (1 + (i : Nat)) j).length = j := by unfold cRow; rw [List.length_map, List.length_range]
        omega
      rw [Int.zero_add]
      refine ⟨_, (a_n 8 sc__law_bad_words.nd), ?_⟩
      show S _ _ _ [_, _, _, _, _, _, _, _, _] _
      have fin : ∀ (L' : List Str) (g8 : Sl), L' = (cnt i ++ cRow (1 + (i : Nat)) j).flatMap (stepB D) ++ stepB D ((j : Int), 1 + (i : Int) - (j : Int)) → ∃ g8' : Sl, ([.sh (.int (lim : Nat)), .sh (.lst (R.map enR)), .sh (.lst (oddW.map .str)), .sh (dA .str D), g4, g5, .ow (.lst (L'.map .str)), .sh (.int (1 + (i : Nat))), g8] : List Sl) = [.sh (.int (lim : Nat)), .sh (.lst (R.map enR)), .sh (.lst (oddW.map .str)), .sh (dA .str D), g4, g5, .ow (.lst (((cnt i ++ cRow (1 + (i : Nat)) (j + 1)).flatMap (stepB D)).map .str)), .sh (.int (1 + (i : Nat))), g8'] := fun L' g8 h => ⟨g8, by rw [nxt, h]⟩
      clear nxt
      generalize (cnt i ++ cRow (1 + (i : Nat)) j).flatMap (stepB D) = L at *
      refine s_one (s_if ?_)
      have okd : okD (.str ((lk D ((j : Nat), 1 + (i : Nat) - ((j : Nat) : Int))).getD (Str.ofString "no word"))) = true := by
        cases hk : lk D ((j : Nat), 1 + (i : Nat) - ((j : Nat) : Int)) with
        | none => decide +kernel
        | some x => exact okw _ (lk_mem hk)
      refine t_cmp ?_
      refine e_dget2S hr.u1 ?_
      refine e_v 3 ?_
      refine ⟨_, rfl, ?_⟩
      refine e_kk ?_
      refine ea_cons ?_
      refine e_v 8 ?_
      refine ea_cons ?_
      refine e_bin ?_
      refine e_v 7 ?_
      refine e_v 8 ?_
      refine w_sub ?_
      refine ea_nil ?_
      refine ⟨(_, _), rfl, ?_⟩
      refine ⟨_, rfl, ?_⟩
      refine e_str ?_
      refine ⟨_, rfl, ?_⟩
      refine e_v 2 ?_
      refine w_inD hr.u65 okd okL ?_
      refine ⟨_, rfl, ?_⟩
      rw [any_str]
      cases hk : lk D ((j : Nat), 1 + (i : Nat) - ((j : Nat) : Int)) with
      | none =>
        refine ite_f (by decide +kernel) ?_
        exact s_nil (fin _ _ (by unfold stepB; rw [hk]; exact (List.append_nil _).symm))
      | some x =>
        by_cases ho : x ∈ oddW
        · refine ite_t (decide_eq_true ho) ?_
          have hap : (L.map Dt.str).length < 100000 := by rw [List.length_map]; omega
          refine s_one (s_app 6 rfl rfl (by first | exact .inl rfl | exact .inr (.inl rfl) | exact .inr (.inr rfl)) (by walk_at "sc") ?_)
          refine e_dgetA hr.u1 ?_
          refine e_v 3 ?_
          refine ⟨_, _, _, rfl, ?_⟩
          refine e_kk ?_
          refine ea_cons ?_
          refine e_v 8 ?_
          refine ea_cons ?_
          refine e_bin ?_
          refine e_v 7 ?_
          refine e_v 8 ?_
          refine w_sub ?_
          refine ea_nil ?_
          refine ⟨(_, _), rfl, ?_⟩
          refine ⟨_, _, rfl, by walk_at "sc", ?_⟩
          rw [show L.map Dt.str ++ [Dt.str x] = (L ++ [x]).map Dt.str by rw [List.map_append]; rfl]
          exact fin _ _ (by unfold stepB; rw [hk]; dsimp only; rw [if_pos ho])
        · refine ite_f (decide_eq_false ho) ?_
          exact s_nil (fin _ _ (by unfold stepB; rw [hk]; dsimp only; rw [if_neg ho, List.append_nil]))
    · rintro G ⟨g8, rfl⟩
      refine ⟨.sh (.int (1 + (i : Nat))), g8, ?_⟩
      rw [rangeD_length, show (1 + (i : Int) + 1).toNat = i + 2 by omega, cnt_succ]
  · rintro G ⟨g7, g8, rfl⟩
    rw [rangeD_length, show ((lim : Int) + 1 - 1).toNat = lim by omega]
    have e : badW lim D = (cnt lim).flatMap (stepB D) := by unfold badW; exact badW_flat D _
    rw [e] at hq
    refine s_one (s_ret ?_)
    refine e_v 6 ?_
    exact hq

abbrev N_common_divisor : List Str := ["first", "second"]
theorem sc_common_divisor : FnScope N_common_divisor ["first", "second"] (defScope s_common_divisor) := ⟨rfl, rfl, rfl, by decide +kernel, rfl, by decide +kernel, by decide +kernel⟩
theorem ok_common_divisor {f : Addr} {fd : FuncData} {k : Nat} {dvs : List V} {kws : List (Str × V)} (F : FD K "common_divisor" "common_divisor" s_common_divisor dvs kws f fd) (m_abs : mg "abs" = none) : FnOk P w K mg base (L2N.CX P w) (k + 1) f fd ["first", "second"] (spD K 2 ph_gcd) := by
  refine fn_ok F sc_common_divisor rfl fun X cdv A outer s H E ds q xd hX hr hph hl Fr wf xok => ?_
  subst hX
  obtain ⟨a, b, rfl, hq⟩ := hph
  show S _ _ _ [_, _] _
  refine s_cons (s_a 0 sc_common_divisor.nd ?_)
  refine e_callB (id := "abs") (by rfl) m_abs b_abs ?_
  refine ea_cons ?_
  refine e_v 0 ?_
  refine ea_nil ?_
  refine wc_abs ?_
  show S _ _ _ [_, _] _
  refine s_cons (s_a 1 sc_common_divisor.nd ?_)
  refine e_callB (id := "abs") (by rfl) m_abs b_abs ?_
  refine ea_cons ?_
  refine e_v 1 ?_
  refine ea_nil ?_
  refine wc_abs ?_
  show S _ _ _ [_, _] _
  refine s_cons (s_while (fun m G => ∃ x y : Nat, m = y ∧ G = [.sh (.int (x : Int)), .sh (.int (y : Int))] ∧ Nat.gcd x y = Int.gcd a b) b.natAbs ⟨a.natAbs, b.natAbs, rfl, rfl, rfl⟩ (passes_of rfl) fun m G hI => ?_)
  obtain ⟨x, y, rfl, rfl, hg⟩ := hI
  refine t_cmp ?_
  refine e_v 1 ?_
  refine e_int ?_
  refine w_gt ?_
  refine ⟨_, rfl, ?_⟩
  refine ite_b (fun h => ?_) (fun h => ?_)
  · have h' : (0 : Int) < (m : Int) := of_decide_eq_true h
    refine s_one (s_par 0 1 rfl sc_common_divisor.nd rfl rfl (by decide) rfl rfl ?_ (by rfl))
    refine ea_cons ?_
    refine e_v 1 ?_
    refine ea_cons ?_
    refine e_bin ?_
    refine e_v 0 ?_
    refine e_v 1 ?_
    first | refine w_mod (by decide) ?_ | refine w_mod (by walk_at "sc") ?_ | refine w_modN (by walk_at "sc") ?_
    refine ea_nil ?_
    refine ⟨_, _, rfl, ?_⟩
    refine ⟨x % m, Nat.mod_lt _ (by omega), m, x % m, rfl, rfl, ?_⟩
    rw [← hg, Nat.gcd_comm x m, Nat.gcd_rec m x, Nat.gcd_comm]
  · have h' : ¬ (0 : Int) < (m : Int) := of_decide_eq_false h
    have hm : m = 0 := by omega
    subst hm
    refine s_cons (s_ret ?_)
    refine e_v 0 ?_
    rw [Nat.gcd_zero_right] at hg
    rw [← hg] at hq
    exact hq

abbrev N_is_share : List Str := ["value", "num", "den"]
theorem sc_is_share : FnScope N_is_share ["value"] (defScope s_is_share) := ⟨rfl, rfl, rfl, by decide +kernel, rfl, by decide +kernel, by decide +kernel⟩
theorem ok_is_share {f : Addr} {fd : FuncData} {k : Nat} {dvs : List V} {kws : List (Str × V)} (F : FD K "is_share" "is_share" s_is_share dvs kws f fd) (c_common_divisor : Fn P w K mg base k "common_divisor" ["first", "second"] [] (spD K 2 ph_gcd)) : FnOk P w K mg base (L2N.CX P w) (k + 1) f fd ["value"] (spD K 1 ph_is_share) := by
  refine fn_ok F sc_is_share rfl fun X cdv A outer s H E ds q xd hX hr hph hl Fr wf xok => ?_
  subst hX
  obtain ⟨n, d, rfl, hq⟩ := hph
  show S _ _ _ [_, _, _] _
  refine s_cons (s_unpack ?_)
  refine e_v 0 ?_
  refine ⟨_, (a_tup rfl (as_cons (a_n 1 sc_is_share.nd) (as_cons (a_n 2 sc_is_share.nd) as_nil))), ?_⟩
  show S _ _ _ [_, _, _] _
  refine s_cons (s_ret ?_)
  refine' e_andD ?ha14 (fun hb => ?hb14) ?hc14
  case ha14 =>
    refine e_cmp ?_
    refine e_v 2 ?_
    refine e_int ?_
    refine w_ge ?_
    exact rfl
  case hb14 =>
    refine' e_andD ?ha15 (fun hb => ?hb15) ?hc15
    case ha15 =>
      refine' e_chainD ?ha16 ?hc16
      case ha16 =>
        refine e_int ?_
        refine e_v 1 ?_
        refine w_le ?_
        refine ⟨rfl, fun hb => ?_⟩
        refine e_v 2 ?_
        refine w_le ?_
        exact rfl
      exact rfl
    case hb15 =>
      refine e_one ?_
      refine e_cmp ?_
      refine e_call (dds := []) c_common_divisor hr (by rfl) (fun _ => .nil) ?_
      refine ea_cons ?_
      refine e_v 1 ?_
      refine ea_cons ?_
      refine e_v 2 ?_
      refine ea_nil ?_
      refine ⟨rfl, ?_⟩
      refine u_gcd (by walk_at "sc") ?_
      refine e_int ?_
      first | refine w_eqI ?_ | refine w_eqT ?_ | refine w_eqB ?_ | refine w_eqD hr.units (by walk_at "ok") (by walk_at "ok") ?_
      exact rfl
    exact rfl
  exact hq

abbrev N_read_number : List Str := ["text", "most", "char"]
theorem sc_read_number : FnScope N_read_number ["text", "most"] (defScope s_read_number) := ⟨rfl, rfl, rfl, by decide +kernel, rfl, by decide +kernel, by decide +kernel⟩
theorem ok_read_number {f : Addr} {fd : FuncData} {k : Nat} {dvs : List V} {kws : List (Str × V)} (F : FD K "read_number" "read_number" s_read_number dvs kws f fd) (m_any : mg "any" = none) (m_int : mg "int" = none) (m_len : mg "len" = none) : FnOk P w K mg base (L2N.CX P w) (k + 1) f fd ["text", "most"] (spD K 2 ph_read_number) := by
  refine fn_ok F sc_read_number rfl fun X cdv A outer s H E ds q xd hX hr hph hl Fr wf xok => ?_
  subst hX
  obtain ⟨l, most, rfl, ⟨hl1, hm⟩, hq⟩ := hph
  have hlen : (SX.S l).length ≤ sizeLine := by rw [SX.S_len]; exact Nat.le_trans hl1 (by decide)
  show S _ _ _ [_, _, _] _
  refine s_cons (s_if ?_)
  refine TW.t ?_
  refine' tw_orD ?ha17 (fun hb => ?hb17) ?hc17
  case ha17 =>
    refine t_cmp ?_
    refine e_v 0 ?_
    refine e_str ?_
    first | refine w_eqI ?_ | refine w_eqT ?_ | refine w_eqB ?_ | refine w_eqD hr.units (by walk_at "ok") (by walk_at "ok") ?_
    refine ⟨_, rfl, ?_⟩
    exact rfl
  case hb17 =>
    refine' tw_orD ?ha18 (fun hb => ?hb18) ?hc18
    case ha18 =>
      refine t_cmp ?_
      refine e_callB (id := "len") (by rfl) m_len b_len ?_
      refine ea_cons ?_
      refine e_v 0 ?_
      refine ea_nil ?_
      first | refine wc_len_lst ?_ | refine wc_len_tup ?_ | refine wc_len_str (by walk_at "sc") ?_ | refine wc_lenc (fun hn63 => ?_)
      refine e_v 1 ?_
      refine w_gt ?_
      refine ⟨_, rfl, ?_⟩
      exact rfl
    case hb18 =>
      refine tw_or1 ?_
      refine t_val ?_
      refine e_callB (id := "any") (by rfl) m_any b_any ?_
      refine ea_cons ?_
      refine e_lc (own := [("char", 2)]) rfl sc_read_number.nd (blkOk_by (N := N_read_number) (sc := defScope s_read_number) (by decide +kernel)) ?_
      refine i_str ?_
      refine e_v 0 ?_
      refine ⟨_, rfl, ?_⟩
      (refine ⟨by rw [List.length_map, SX.S]; show l.length ≤ 100000; omega, _, lc_boolS (fun c => !decide (c ∈ dg)) 2 (fun c Y bY => by obtain ⟨s', H', C, cl, fp, rfl⟩ := bY; exact a_n 2 sc_read_number.nd) (by simp) (fun c Y bY => by obtain ⟨s', H', C, cl, fp, rfl⟩ := bY; refine e_cmp ?_; refine e_v 2 ?_; refine e_str ?_; refine w_notInS ?_; rfl), fun acc ha => ?_⟩; subst ha)
      refine ea_nil ?_
      refine wc_any rfl ?_
      refine ⟨_, rfl, ?_⟩
      exact rfl
    exact rfl
  rw [SX.S_len]
  have e0 : (SX.S l = Str.ofString "") ↔ l = [] := ⟨fun h => SX.S_inj (b := []) h, fun h => by rw [h]; rfl⟩
  have e1 : (List.take (List.map (fun c => Dt.str { cps := #[c] }) (SX.S l).cps.toList).length (List.map (fun c => !decide (c ∈ dg)) l)) = List.map (fun c => !decide (c ∈ dg)) l := List.take_of_length_le (by rw [List.length_map, List.length_map]; exact Nat.le_refl _)
  rw [e1]
  by_cases hbad : l = [] ∨ most < l.length ∨ (∃ c ∈ l, c ∉ dg)
  · refine ite_t ?_ ?_
    · simp only [Bool.or_eq_true, decide_eq_true_eq, e0, List.any_eq_true, List.mem_map, id]
      rcases hbad with h | h | ⟨c, hc, hd⟩
      · exact .inl h
      · exact .inr (.inl h)
      · exact .inr (.inr ⟨true, ⟨c, hc, by simp [hd]⟩, rfl⟩)
    · unfold rdNum at hq
      rw [if_pos hbad] at hq
      refine s_one (s_ret ?_)
      refine e_un ?_
      refine e_int ?_
      refine w_neg ?_
      exact hq
  · refine ite_f ?_ ?_
    · rw [← Bool.not_eq_true]
      simp only [Bool.or_eq_true, decide_eq_true_eq, e0, List.any_eq_true, List.mem_map, id]
      rintro (h | h | ⟨x, ⟨c, hc, hx⟩, rfl⟩)
      · exact hbad (.inl h)
      · exact hbad (.inr (.inl h))
      · exact hbad (.inr (.inr ⟨c, hc, by simpa using hx⟩))
    · refine s_nil ?_
      have hne : l ≠ [] := fun h => hbad (.inl h)
      have hdig : NumText.AllDigits l := fun c hc => by
        have : c ∈ dg := Classical.byContradiction fun h => hbad (.inr (.inr ⟨c, hc, h⟩))
        unfold dg at this
        simp only [List.mem_cons, List.not_mem_nil, or_false] at this
        omega
      have hlm : (l.length : Int) ≤ most := by
        have := fun h => hbad (.inr (.inl h))
        omega
      obtain ⟨c0, r, rfl⟩ : ∃ c0 r, l = c0 :: r := by
        cases l with
        | nil => exact absurd rfl hne
        | cons c0 r => exact ⟨c0, r, rfl⟩
      unfold rdNum at hq
      rw [if_neg hbad] at hq
      have hint : intText? (SX.S (c0 :: r)) = some ((NumText.digitsVal (c0 :: r) : Nat) : Int) := intText_digits hdig hne (by rw [SX.S_len]; omega)
      have h640 : (SX.S (c0 :: r)).length ≤ 640 := by rw [SX.S_len]; omega
      refine s_cons (s_if ?_)
      refine TW.t ?_
      refine' tw_andD ?ha19 (fun hb => ?hb19) ?hc19
      case ha19 =>
        refine t_cmp ?_
        refine e_ix ?_
        refine e_v 0 ?_
        refine e_int ?_
        refine wi_str hlen (k := c0) (atI_nat (j := 0) rfl) ?_
        refine e_str ?_
        first | refine w_eqI ?_ | refine w_eqT ?_ | refine w_eqB ?_ | refine w_eqD hr.units (by walk_at "ok") (by walk_at "ok") ?_
        refine ⟨_, rfl, ?_⟩
        exact rfl
      case hb19 =>
        refine tw_and1 ?_
        refine t_cmp ?_
        refine e_callB (id := "len") (by rfl) m_len b_len ?_
        refine ea_cons ?_
        refine e_v 0 ?_
        refine ea_nil ?_
        first | refine wc_len_lst ?_ | refine wc_len_tup ?_ | refine wc_len_str (by walk_at "sc") ?_ | refine wc_lenc (fun hn63 => ?_)
        refine e_int ?_
        refine w_gt ?_
        refine ⟨_, rfl, ?_⟩
        exact rfl
      have e3 : ((⟨#[c0]⟩ : Str) = Str.ofString "0") ↔ c0 = 48 := ⟨fun h => by have := SX.S_inj (a := [c0]) (b := [48]) h; exact (List.cons.inj this).1, fun h => by rw [h]; rfl⟩
      rw [SX.S_len]
      by_cases h : (c0 :: r).head? = some 48 ∧ 1 < (c0 :: r).length
      · refine ite_t ?_ ?_
        · have h1 : c0 = 48 := Option.some.inj h.1
          have h2 : (1 : Int) < ((c0 :: r).length : Nat) := by omega
          rw [decide_eq_true (e3.mpr h1), decide_eq_true h2]
          rfl
        · rw [if_pos h] at hq
          refine s_one (s_ret ?_)
          refine e_un ?_
          refine e_int ?_
          refine w_neg ?_
          exact hq
      · refine ite_f ?_ ?_
        · rw [← Bool.not_eq_true, Bool.and_eq_true, decide_eq_true_eq, decide_eq_true_eq, e3]
          rintro ⟨h1, h2⟩
          exact h ⟨by rw [h1]; rfl, by omega⟩
        · refine s_nil ?_
          rw [if_neg h] at hq
          refine s_cons (s_ret ?_)
          refine e_callTy (id := "int") (by rfl) m_int b_int ?_
          refine ea_cons ?_
          refine e_v 0 ?_
          refine ea_nil ?_
          refine wc_intS hint h640 ?_
          exact hq

abbrev N_read_share : List Str := ["text", "num", "slash", "den", "share"]
theorem sc_read_share : FnScope N_read_share ["text"] (defScope s_read_share) := ⟨rfl, rfl, rfl, by decide +kernel, rfl, by decide +kernel, by decide +kernel⟩
theorem ok_read_share {f : Addr} {fd : FuncData} {k : Nat} {dvs : List V} {kws : List (Str × V)} {v_MOST_DIGITS : V} {u_MOST_DIGITS : Value} (F : FD K "read_share" "read_share" s_read_share dvs kws f fd) (c_is_share : Fn P w K mg base k "is_share" ["value"] [] (spD K 1 ph_is_share)) (c_read_number : Fn P w K mg base k "read_number" ["text", "most"] [] (spD K 2 ph_read_number)) (g_MOST_DIGITS : mg "MOST_DIGITS" = some u_MOST_DIGITS) (r_MOST_DIGITS : RelV v_MOST_DIGITS u_MOST_DIGITS) (k_MOST_DIGITS : ∀ F, Rp K F d_MOST_DIGITS v_MOST_DIGITS) : FnOk P w K mg base (L2N.CX P w) (k + 1) f fd ["text"] (spD K 1 ph_read_share) := by
  refine fn_ok F sc_read_share rfl fun X cdv A outer s H E ds q xd hX hr hph hl Fr wf xok => ?_
  subst hX
  obtain ⟨l, rfl, hl1, hq⟩ := hph
  have hlen : (SX.S l).length ≤ 100000 := by rw [SX.S_len]; omega
  show S _ _ _ [_, _, _, _, _] _
  refine s_cons (s_unpack ?_)
  refine e_partition ?_
  refine e_v 0 ?_
  refine ⟨_, rfl, ?_⟩
  refine e_str ?_
  refine ⟨_, rfl, by walk_at "sc", by walk_at "sc", ?_⟩
  refine ⟨_, (a_tup rfl (as_cons (a_n 1 sc_read_share.nd) (as_cons (a_n 2 sc_read_share.nd) (as_cons (a_n 3 sc_read_share.nd) as_nil)))), ?_⟩
  show S _ _ _ [_, _, _, _, _] _
  cases hp : TL.par [47] [] l with
  | none =>
    have e : Txt.partition (SX.S l) (Str.ofString "/") = (SX.S l, SX.S [], SX.S []) := SX.partition_none (b := [47]) (by simp) hp
    have hq0 : q .non := by
      unfold rdShare at hq
      rw [hp] at hq
      exact hq
    rw [e]
    have pz : ([] : List Nat).length ≤ 90000 ∧ (30 : Int) ≤ 600 := ⟨by decide, by decide⟩
    have pl : l.length ≤ 90000 ∧ (30 : Int) ≤ 600 := ⟨hl1, by decide⟩
    refine s_cons (s_a 4 sc_read_share.nd ?_)
    refine e_tup ?_
    refine ea_cons ?_
    refine e_call (dds := []) c_read_number hr (by rfl) (fun _ => .nil) ?_
    refine ea_cons ?_
    refine e_v 1 ?_
    refine ea_cons ?_
    refine e_glob (by rfl) g_MOST_DIGITS r_MOST_DIGITS k_MOST_DIGITS ?_
    refine ea_nil ?_
    refine ⟨rfl, ?_⟩
    refine u_read_number pl ?_
    refine ea_cons ?_
    refine e_call (dds := []) c_read_number hr (by rfl) (fun _ => .nil) ?_
    refine ea_cons ?_
    refine e_v 3 ?_
    refine ea_cons ?_
    refine e_glob (by rfl) g_MOST_DIGITS r_MOST_DIGITS k_MOST_DIGITS ?_
    refine ea_nil ?_
    refine ⟨rfl, ?_⟩
    refine u_read_number pz ?_
    refine ea_nil ?_
    refine ⟨Nat.le_of_ble_eq_true rfl, ?_⟩
    show S _ _ _ [_, _, _, _, _] _
    refine s_cons (s_if ?_)
    refine TW.t ?_
    refine' tw_orD ?ha20 (fun hb => ?hb20) ?hc20
    case ha20 =>
      refine t_cmp ?_
      refine e_v 2 ?_
      refine e_str ?_
      first | refine w_eqI ?_ | refine w_eqT ?_ | refine w_eqB ?_ | refine w_eqD hr.units (by walk_at "ok") (by walk_at "ok") ?_
      refine ⟨_, rfl, ?_⟩
      exact rfl
    case hb20 =>
      refine' tw_orD ?ha21 (fun hb => ?hb21) ?hc21
      case ha21 =>
        refine t_not ?_
        refine t_val ?_
        refine e_call (dds := []) c_is_share hr (by rfl) (fun _ => .nil) ?_
        refine ea_cons ?_
        refine e_v 4 ?_
        refine ea_nil ?_
        refine ⟨rfl, ?_⟩
        refine u_is_share (by walk_at "sc") ?_
        refine ⟨_, rfl, ?_⟩
        exact rfl
      case hb21 =>
        refine' tw_orD ?ha22 (fun hb => ?hb22) ?hc22
        case ha22 =>
          refine t_cmp ?_
          refine e_ix ?_
          refine e_v 4 ?_
          refine e_int ?_
          first | refine wi_tup0 ?_ | refine wi_tup1 ?_ | refine wi_tup2 ?_ | refine wi_tup (by walk_at "sc") ?_ | refine wi_lst (by walk_at "sc") ?_ | refine wi_str (by walk_at "sc") (by walk_at "sc") ?_
          refine e_int ?_
          first | refine w_eqI ?_ | refine w_eqT ?_ | refine w_eqB ?_ | refine w_eqD hr.units (by walk_at "ok") (by walk_at "ok") ?_
          refine ⟨_, rfl, ?_⟩
          exact rfl
        case hb22 =>
          refine tw_or1 ?_
          refine t_cmp ?_
          refine e_ix ?_
          refine e_v 4 ?_
          refine e_int ?_
          first | refine wi_tup0 ?_ | refine wi_tup1 ?_ | refine wi_tup2 ?_ | refine wi_tup (by walk_at "sc") ?_ | refine wi_lst (by walk_at "sc") ?_ | refine wi_str (by walk_at "sc") (by walk_at "sc") ?_
          refine e_ix ?_
          refine e_v 4 ?_
          refine e_int ?_
          first | refine wi_tup0 ?_ | refine wi_tup1 ?_ | refine wi_tup2 ?_ | refine wi_tup (by walk_at "sc") ?_ | refine wi_lst (by walk_at "sc") ?_ | refine wi_str (by walk_at "sc") (by walk_at "sc") ?_
          first | refine w_eqI ?_ | refine w_eqT ?_ | refine w_eqB ?_ | refine w_eqD hr.units (by walk_at "ok") (by walk_at "ok") ?_
          refine ⟨_, rfl, ?_⟩
          exact rfl
        exact rfl
      exact rfl
    refine ite_t (by rfl) ?_
    refine s_one (s_ret ?_)
    refine e_none ?_
    exact hq0
  | some pq =>
    obtain ⟨p, r⟩ := pq
    have e : Txt.partition (SX.S l) (Str.ofString "/") = (SX.S p, SX.S [47], SX.S r) := SX.partition_some (b := [47]) (by simp) hp
    obtain ⟨lp, lr⟩ := par_len hp
    have pp : p.length ≤ 90000 ∧ (30 : Int) ≤ 600 := ⟨by omega, by decide⟩
    have pr : r.length ≤ 90000 ∧ (30 : Int) ≤ 600 := ⟨by omega, by decide⟩
    unfold rdShare at hq
    rw [hp] at hq
    dsimp only at hq
    rw [e]
    refine s_cons (s_a 4 sc_read_share.nd ?_)
    refine e_tup ?_
    refine ea_cons ?_
    refine e_call (dds := []) c_read_number hr (by rfl) (fun _ => .nil) ?_
    refine ea_cons ?_
    refine e_v 1 ?_
    refine ea_cons ?_
    refine e_glob (by rfl) g_MOST_DIGITS r_MOST_DIGITS k_MOST_DIGITS ?_
    refine ea_nil ?_
    refine ⟨rfl, ?_⟩
    refine u_read_number pp ?_
    refine ea_cons ?_
    refine e_call (dds := []) c_read_number hr (by rfl) (fun _ => .nil) ?_
    refine ea_cons ?_
    refine e_v 3 ?_
    refine ea_cons ?_
    refine e_glob (by rfl) g_MOST_DIGITS r_MOST_DIGITS k_MOST_DIGITS ?_
    refine ea_nil ?_
    refine ⟨rfl, ?_⟩
    refine u_read_number pr ?_
    refine ea_nil ?_
    refine ⟨Nat.le_of_ble_eq_true rfl, ?_⟩
    show S _ _ _ [_, _, _, _, _] _
    generalize rdNum p 30 = n at *
    generalize rdNum r 30 = d at *
    refine s_cons (s_if ?_)
    refine TW.t ?_
    refine' tw_orD ?ha23 (fun hb => ?hb23) ?hc23
    case ha23 =>
      refine t_cmp ?_
      refine e_v 2 ?_
      refine e_str ?_
      first | refine w_eqI ?_ | refine w_eqT ?_ | refine w_eqB ?_ | refine w_eqD hr.units (by walk_at "ok") (by walk_at "ok") ?_
      refine ⟨_, rfl, ?_⟩
      exact rfl
    case hb23 =>
      refine' tw_orD ?ha24 (fun hb => ?hb24) ?hc24
      case ha24 =>
        refine t_not ?_
        refine t_val ?_
        refine e_call (dds := []) c_is_share hr (by rfl) (fun _ => .nil) ?_
        refine ea_cons ?_
        refine e_v 4 ?_
        refine ea_nil ?_
        refine ⟨rfl, ?_⟩
        refine u_is_share (by walk_at "sc") ?_
        refine ⟨_, rfl, ?_⟩
        exact rfl
      case hb24 =>
        refine' tw_orD ?ha25 (fun hb => ?hb25) ?hc25
        case ha25 =>
          refine t_cmp ?_
          refine e_ix ?_
          refine e_v 4 ?_
          refine e_int ?_
          first | refine wi_tup0 ?_ | refine wi_tup1 ?_ | refine wi_tup2 ?_ | refine wi_tup (by walk_at "sc") ?_ | refine wi_lst (by walk_at "sc") ?_ | refine wi_str (by walk_at "sc") (by walk_at "sc") ?_
          refine e_int ?_
          first | refine w_eqI ?_ | refine w_eqT ?_ | refine w_eqB ?_ | refine w_eqD hr.units (by walk_at "ok") (by walk_at "ok") ?_
          refine ⟨_, rfl, ?_⟩
          exact rfl
        case hb25 =>
          refine tw_or1 ?_
          refine t_cmp ?_
          refine e_ix ?_
          refine e_v 4 ?_
          refine e_int ?_
          first | refine wi_tup0 ?_ | refine wi_tup1 ?_ | refine wi_tup2 ?_ | refine wi_tup (by walk_at "sc") ?_ | refine wi_lst (by walk_at "sc") ?_ | refine wi_str (by walk_at "sc") (by walk_at "sc") ?_
          refine e_ix ?_
          refine e_v 4 ?_
          refine e_int ?_
          first | refine wi_tup0 ?_ | refine wi_tup1 ?_ | refine wi_tup2 ?_ | refine wi_tup (by walk_at "sc") ?_ | refine wi_lst (by walk_at "sc") ?_ | refine wi_str (by walk_at "sc") (by walk_at "sc") ?_
          first | refine w_eqI ?_ | refine w_eqT ?_ | refine w_eqB ?_ | refine w_eqD hr.units (by walk_at "ok") (by walk_at "ok") ?_
          refine ⟨_, rfl, ?_⟩
          exact rfl
        exact rfl
      exact rfl
    have e2 : (decide (SX.S [47] = Str.ofString "") || (!isShare n d || (decide (n = 0) || decide (n = d)))) = !okSh n d := by
      rw [decide_eq_false (show ¬ SX.S [47] = Str.ofString "" by decide)]
      unfold okSh
      cases isShare n d <;> cases decide (n = 0) <;> cases decide (n = d) <;> rfl
    rw [e2]
    cases hk : okSh n d
    · refine ite_t rfl ?_
      rw [if_neg (by rw [hk]; decide)] at hq
      refine s_one (s_ret ?_)
      refine e_none ?_
      exact hq
    · refine ite_f rfl ?_
      refine s_nil ?_
      rw [if_pos hk] at hq
      refine s_cons (s_ret ?_)
      refine e_v 4 ?_
      exact hq

abbrev N_read_word : List Str := ["word", "kind", "share"]
theorem sc_read_word : FnScope N_read_word ["word"] (defScope s_read_word) := ⟨rfl, rfl, rfl, by decide +kernel, rfl, by decide +kernel, by decide +kernel⟩
theorem ok_read_word {f : Addr} {fd : FuncData} {k : Nat} {dvs : List V} {kws : List (Str × V)} {C_InvalidWord : Addr} {v_KINDS : V} {u_KINDS : Value} {v_SILENT : V} {u_SILENT : Value} (F : FD K "read_word" "read_word" s_read_word dvs kws f fd) (m_len : mg "len" = none) (c_read_share : Fn P w K mg base k "read_share" ["text"] [] (spD K 1 ph_read_share)) (g_InvalidWord : mg "InvalidWord" = some (.ref C_InvalidWord)) (er_InvalidWord : Er P w K mg base 1 "InvalidWord" "word" "word" C_InvalidWord) (hk2 : 2 ≤ k) (g_KINDS : mg "KINDS" = some u_KINDS) (r_KINDS : RelV v_KINDS u_KINDS) (k_KINDS : ∀ F, Rp K F d_KINDS v_KINDS) (g_SILENT : mg "SILENT" = some u_SILENT) (r_SILENT : RelV v_SILENT u_SILENT) (k_SILENT : ∀ F, Rp K F d_SILENT v_SILENT) : FnOk P w K mg base (L2N.CX P w) (k + 1) f fd ["word"] (spD K 1 (ph_read_word C_InvalidWord)) := by
  refine fn_okE F sc_read_word rfl fun X cdv A outer s H E ds q xd hX hr hph hl tk => ?_
  subst hX
  obtain ⟨l, rfl, hl1, hq, hx⟩ := hph
  have hlen : (SX.S l).length ≤ 100000 := by rw [SX.S_len]; omega
  show S _ _ _ [_, _, _] _
  refine s_cons (s_if ?_)
  refine t_cmp ?_
  refine e_v 0 ?_
  refine e_glob (by rfl) g_SILENT r_SILENT k_SILENT ?_
  first | refine w_eqI ?_ | refine w_eqT ?_ | refine w_eqB ?_ | refine w_eqD hr.units (by walk_at "ok") (by walk_at "ok") ?_
  refine ⟨_, rfl, ?_⟩
  by_cases h0 : SX.S l = Str.ofString "no word"
  · refine ite_t (decide_eq_true h0) ?_
    refine s_one (s_ret ?_)
    refine e_tup ?_
    refine ea_cons ?_
    refine e_glob (by rfl) g_SILENT r_SILENT k_SILENT ?_
    refine ea_cons ?_
    refine e_none ?_
    refine ea_nil ?_
    refine ⟨Nat.le_of_ble_eq_true rfl, ?_⟩
    exact hq (Str.ofString "no word", none) (by unfold rdWord; rw [if_pos h0])
  · refine ite_f (decide_eq_false h0) ?_
    refine s_nil ?_
    have e1 : rdWord l = match tryK "at least" l with
      | some r => some (Str.ofString "at least", some r)
      | none => match tryK "below" l with
        | some r => some (Str.ofString "below", some r)
        | none => none := by unfold rdWord; exact if_neg h0
    refine s_cons (s_for (passes_of rfl) rfl (i_tup ?_))
    refine e_glob (by rfl) g_KINDS r_KINDS k_KINDS ?_
    refine ⟨_, rfl, ?_⟩
    refine ⟨fun i G => ∃ g h, G = [.sh (.str (SX.S l)), g, h] ∧ (1 ≤ i → tryK "at least" l = none) ∧ (2 ≤ i → tryK "below" l = none), ⟨_, _, rfl, fun z => absurd z (by decide), fun z => absurd z (by decide)⟩, ?_, ?_⟩
    · rintro i d G hd ⟨g, h, rfl, h1, h2⟩
      obtain ⟨kd, rfl, hkd⟩ : ∃ kd : Str, d = .str kd ∧ ((i = 0 ∧ kd = "at least") ∨ (i = 1 ∧ kd = "below")) := by
        match i, hd with
        | 0, hd => exact ⟨_, (Option.some.inj hd).symm, .inl ⟨rfl, rfl⟩⟩
        | 1, hd => exact ⟨_, (Option.some.inj hd).symm, .inr ⟨rfl, rfl⟩⟩
        | i + 2, hd => cases hd
      have hk1 : kd.length ≤ 20 := by rcases hkd with ⟨_, rfl⟩ | ⟨_, rfl⟩ <;> decide
      have hk2 : kd.length ≤ sizeLine := Nat.le_trans hk1 (by decide)
      have fin : tryK kd l = none → ∀ g h, ∃ g' h', ([.sh (.str (SX.S l)), g, h] : List Sl) = [.sh (.str (SX.S l)), g', h'] ∧ (1 ≤ i + 1 → tryK "at least" l = none) ∧ (2 ≤ i + 1 → tryK "below" l = none) := fun hn g h => by
        refine ⟨g, h, rfl, fun _ => ?_, fun z => ?_⟩
        · rcases hkd with ⟨_, rfl⟩ | ⟨rfl, _⟩
          · exact hn
          · exact h1 (by omega)
        · rcases hkd with ⟨rfl, _⟩ | ⟨_, rfl⟩
          · omega
          · exact hn
      refine ⟨_, (a_n 1 sc_read_word.nd), ?_⟩
      show S _ _ _ [_, _, _] _
      refine s_one (s_if ?_)
      have ha : kd.length + (Str.ofString " ").length ≤ sizeLine := Nat.le_trans (Nat.add_le_add hk1 (show (Str.ofString " ").length ≤ 1 by decide)) (by decide)
      refine t_val ?_
      refine e_startswith ?_
      refine e_v 0 ?_
      refine ⟨_, rfl, ?_⟩
      refine e_bin ?_
      refine e_v 1 ?_
      refine e_str ?_
      refine w_addS ha ?_
      refine ⟨_, rfl, ?_⟩
      refine ⟨_, rfl, ?_⟩
      cases hs : Txt.startswith (SX.S l) (kd ++ Str.ofString " ")
      · refine ite_f rfl ?_
        exact s_nil (fin (by unfold tryK; rw [if_neg (by rw [hs]; decide)]) _ _)
      · refine ite_t rfl ?_
        have et : tryK kd l = rdShare (restL kd l) := by unfold tryK; rw [if_pos hs]
        have hrl : (restL kd l).length ≤ 90000 := by
          have h5 := cutS_length (SX.S l) (some ((kd.length : Int) + 1)) none
          have h6 : (SX.S l).length = l.length := SX.S_len l
          have e : (restL kd l).length = (cutS (SX.S l) (some ((kd.length : Int) + 1)) none).length := by unfold restL; rw [Array.length_toList]; rfl
          omega
        refine s_cons (s_a 2 sc_read_word.nd ?_)
        refine e_call (dds := []) c_read_share hr (by rfl) (fun _ => .nil) ?_
        refine ea_cons ?_
        refine e_slice ?_
        refine e_v 0 ?_
        refine eo_some ?_
        refine e_bin ?_
        refine e_callB (id := "len") (by rfl) m_len b_len ?_
        refine ea_cons ?_
        refine e_v 1 ?_
        refine ea_nil ?_
        first | refine wc_len_lst ?_ | refine wc_len_tup ?_ | refine wc_len_str (by walk_at "sc") ?_ | refine wc_lenc (fun hn63 => ?_)
        refine e_int ?_
        first | refine w_add ?_ | refine w_catT (by walk_at "sc") ?_ | refine w_addS (by walk_at "sc") ?_ | refine w_catL (by walk_at "sc") ?_
        refine ⟨_, rfl, ?_⟩
        refine eo_none ?_
        first | refine wsl_lst ?_ | refine wsl_tup ?_ | refine wsl_str (by walk_at "sc") ?_
        refine ea_nil ?_
        refine ⟨rfl, ?_⟩
        refine u_read_share (l := restL kd l) hrl ?_
        show S _ _ _ [_, _, _] _
        rw [← et]
        refine s_one (s_if ?_)
        refine t_cmp ?_
        refine e_v 2 ?_
        refine e_none ?_
        first | refine w_isNN ?_ | refine w_isNB ?_
        refine ⟨_, rfl, ?_⟩
        cases ht : tryK kd l with
        | none =>
          refine ite_f rfl ?_
          exact s_nil (fin ht _ _)
        | some r =>
          refine ite_t rfl ?_
          refine s_one (s_ret ?_)
          refine e_tup ?_
          refine ea_cons ?_
          refine e_v 1 ?_
          refine ea_cons ?_
          refine e_v 2 ?_
          refine ea_nil ?_
          refine ⟨Nat.le_of_ble_eq_true rfl, ?_⟩
          refine hq (kd, some r) ?_
          rw [e1]
          rcases hkd with ⟨_, rfl⟩ | ⟨rfl, rfl⟩
          · rw [ht]
          · rw [h1 (by decide), ht]
    · rintro G ⟨g, h, rfl, h1, h2⟩
      have n1 := h1 (by decide)
      have n2 := h2 (by decide)
      refine s_one (s_raise1 tk er_InvalidWord (hr.mono hk2) (by rfl) ?_)
      refine ea_cons ?_
      refine e_v 0 ?_
      refine ea_nil ?_
      refine ⟨rfl, hx ?_⟩
      rw [e1, n1, n2]

abbrev N_check_table : List Str := ["limit", "looks", "rule", "wins", "losses", "tries", "k"]
theorem sc_check_table : FnScope N_check_table ["limit", "looks", "rule"] (defScope s_check_table) := ⟨rfl, rfl, rfl, by decide +kernel, rfl, by decide +kernel, by decide +kernel⟩
theorem ok_check_table {f : Addr} {fd : FuncData} {k : Nat} {dvs : List V} {kws : List (Str × V)} {C_InvalidTable : Addr} {C_InvalidWord : Addr} {v_MOST_TRIES : V} {u_MOST_TRIES : Value} (F : FD K "check_table" "check_table" s_check_table dvs kws f fd) (m_any : mg "any" = none) (m_len : mg "len" = none) (m_range : mg "range" = none) (c_read_word : Fn P w K mg base k "read_word" ["word"] [] (spD K 1 (ph_read_word C_InvalidWord))) (g_InvalidTable : mg "InvalidTable" = some (.ref C_InvalidTable)) (er_InvalidTable : Er P w K mg base 1 "InvalidTable" "place" "place" C_InvalidTable) (hk2 : 2 ≤ k) (g_MOST_TRIES : mg "MOST_TRIES" = some u_MOST_TRIES) (r_MOST_TRIES : RelV v_MOST_TRIES u_MOST_TRIES) (k_MOST_TRIES : ∀ F, Rp K F d_MOST_TRIES v_MOST_TRIES) : FnOk P w K mg base (L2N.CX P w) (k + 1) f fd ["limit", "looks", "rule"] (spD K 3 (ph_check_tableX C_InvalidTable C_InvalidWord)) := by
  refine fn_okE F sc_check_table rfl fun X cdv A outer s H E ds q xd hX hr hph hl tk => ?_
  subst hX
  obtain ⟨lim, looks, rl, ld, rfl, ⟨gv, hld⟩, hq, hT, hW⟩ := hph
  obtain ⟨hll, hrl3, hnd, hwk⟩ := gv
  show S _ _ _ [_, _, _, _, _, _, _] _
  refine s_cons (s_if ?_)
  refine t_not ?_
  refine' t_chainD ?ha26 ?hc26
  case ha26 =>
    refine e_int ?_
    refine e_v 0 ?_
    refine w_le ?_
    refine ⟨rfl, fun hb => ?_⟩
    refine e_glob (by rfl) g_MOST_TRIES r_MOST_TRIES k_MOST_TRIES ?_
    refine w_le ?_
    exact rfl
  refine ite_b (fun h => ?_) (fun h => ?_)
  · refine s_one (s_raise1 tk er_InvalidTable (hr.mono hk2) (by rfl) ?_)
    refine ea_cons ?_
    refine e_str ?_
    refine ea_nil ?_
    refine ⟨rfl, hT _ ?_⟩
    unfold faultX
    rw [if_pos]
    rw [Bool.not_eq_true', Bool.and_eq_false_iff, decide_eq_false_iff_not, decide_eq_false_iff_not] at h
    omega
  have hl : 1 ≤ lim ∧ lim ≤ 30 := by
    rw [Bool.not_eq_false', Bool.and_eq_true, decide_eq_true_eq, decide_eq_true_eq] at h
    exact h
  clear h
  obtain ⟨n, rfl⟩ := Int.eq_ofNat_of_zero_le (show 0 ≤ lim by omega)
  have hl1 : 1 ≤ n := by omega
  have hl30 : n ≤ 30 := by omega
  have nl : ¬ ((n : Int) < 1 ∨ 30 < (n : Int)) := by omega
  refine s_nil ?_
  have a0 : looks.length ≠ 0 → atI (looks.map Dt.int) 0 = some (.int (cf looks 0)) := fun z => at_cf rfl (by omega)
  have a1 : looks.length ≠ 0 → atI (looks.map Dt.int) (-1) = some (.int (cf looks (looks.length - 1))) := at_endX
  have cnv : decide ((looks.map Dt.int).length = 0) = false → looks.length ≠ 0 := fun z e => by rw [List.length_map, e] at z; cases z
  have cnv2 : ∀ z : Int, decide (z = 0) = false → z = ((looks.map Dt.int).length : Nat) → looks.length ≠ 0 := fun z h1 h2 e => by rw [h2, List.length_map, e] at h1; cases h1
  refine s_cons (s_if ?_)
  refine TW.t ?_
  refine' tw_orD ?ha27 (fun hb => ?hb27) ?hc27
  case ha27 =>
    refine t_cmp ?_
    refine e_callB (id := "len") (by rfl) m_len b_len ?_
    refine ea_cons ?_
    refine e_v 1 ?_
    refine ea_nil ?_
    refine wc_len_ld hld ?_
    refine e_int ?_
    first | refine w_eqI ?_ | refine w_eqT ?_ | refine w_eqB ?_ | refine w_eqD hr.units (by walk_at "ok") (by walk_at "ok") ?_
    refine ⟨_, rfl, ?_⟩
    exact rfl
  case hb27 =>
    refine' tw_orD ?ha28 (fun hb => ?hb28) ?hc28
    case ha28 =>
      refine t_cmp ?_
      refine e_ix ?_
      refine e_v 1 ?_
      refine e_int ?_
      refine wi_ld hld (a0 (cnv2 _ hb rfl)) ?_
      refine e_int ?_
      refine w_lt ?_
      refine ⟨_, rfl, ?_⟩
      exact rfl
    case hb28 =>
      refine tw_or1 ?_
      refine t_cmp ?_
      refine e_ix ?_
      refine e_v 1 ?_
      refine e_un ?_
      refine e_int ?_
      refine w_neg ?_
      refine wi_ld hld (a1 (cnv2 _ (by assumption) rfl)) ?_
      refine e_v 0 ?_
      first | refine w_neI ?_ | refine w_neT ?_ | refine w_neB ?_ | refine w_neD hr.units (by walk_at "ok") (by walk_at "ok") ?_
      refine ⟨_, rfl, ?_⟩
      exact rfl
    exact rfl
  refine ite_b (fun h => ?_) (fun h => ?_)
  · refine s_one (s_raise1 tk er_InvalidTable (hr.mono hk2) (by rfl) ?_)
    refine ea_cons ?_
    refine e_str ?_
    refine ea_nil ?_
    refine ⟨rfl, hT _ ?_⟩
    unfold faultX
    rw [if_neg nl, if_pos]
    unfold badK
    simp only [List.length_map, Bool.or_eq_true, decide_eq_true_eq, Bool.not_eq_true', decide_eq_false_iff_not] at h ⊢
    rcases h with h | h | h
    · exact .inl (.inl (by omega))
    · exact .inl (.inr h)
    · exact .inr h
  have hbk : badK (n : Int) looks = false := by
    unfold badK
    simp only [List.length_map, Bool.or_eq_false_iff, decide_eq_false_iff_not, Bool.not_eq_false', decide_eq_true_eq] at h ⊢
    exact ⟨⟨by omega, h.2.1⟩, fun z => z h.2.2⟩
  have hne : looks.length ≠ 0 := by
    simp only [List.length_map, Bool.or_eq_false_iff, decide_eq_false_iff_not] at h
    omega
  clear h
  refine s_nil ?_
  have rr : ((looks.map Dt.int).length : Int) - 1 = ((looks.length - 1 : Nat) : Int) := by rw [List.length_map]; omega
  have rb : -(2 ^ 62) ≤ ((looks.map Dt.int).length : Int) - 1 := by rw [rr]; omega
  have rb2 : ((looks.map Dt.int).length : Int) - 1 < 2 ^ 62 := by rw [rr]; omega
  refine s_cons (s_if ?_)
  refine t_val ?_
  refine e_callB (id := "any") (by rfl) m_any b_any ?_
  refine ea_cons ?_
  refine e_lc (own := [("k", 6)]) rfl sc_check_table.nd (blkOk_by (N := N_check_table) (sc := defScope s_check_table) (by decide +kernel)) ?_
  refine i_range1 (by rfl) m_range ?_
  refine ea_cons ?_
  refine e_bin ?_
  refine e_callB (id := "len") (by rfl) m_len b_len ?_
  refine ea_cons ?_
  refine e_v 1 ?_
  refine ea_nil ?_
  refine wc_len_ld hld ?_
  refine e_int ?_
  refine w_sub ?_
  refine ea_nil ?_
  refine ⟨_, rfl, by walk_at "sc", by walk_at "sc", ?_⟩
  rw [rr, rangeD_nat]
  refine' ⟨?lcl29, _, lc_of (List.range (looks.length - 1)) (fun i => Dt.int (i : Nat)) (fun i => .bl (decide (cf looks (i + 1) ≤ cf looks i))) (fun i => [(6, Dt.int (i : Nat))]) ?lct29 ?lcm29 ?lce29, ?lcc29⟩
  case lcl29 =>
    rw [List.length_map, List.length_range]; omega
  case lct29 =>
    rintro t ht Y ⟨s', H', C, cl, fp, rfl⟩
    exact (a_n 6 sc_check_table.nd)
  case lcm29 =>
    intro t p hp
    simp at hp
    simp [hp]
  case lce29 =>
    rintro t ht Y ⟨s', H', C, cl, fp, rfl⟩
    have ht2 := List.mem_range.mp ht
    refine e_cmp ?_
    refine e_ix ?_
    refine e_v 1 ?_
    refine e_v 6 ?_
    refine wi_ld hld (at_cf rfl (by omega)) ?_
    refine e_ix ?_
    refine e_v 1 ?_
    refine e_bin ?_
    refine e_v 6 ?_
    refine e_int ?_
    first | refine w_add ?_ | refine w_catT (by walk_at "sc") ?_ | refine w_addS (by walk_at "sc") ?_ | refine w_catL (by walk_at "sc") ?_
    refine wi_ld hld (at_cf (j := t + 1) (by omega) (by omega)) ?_
    refine w_ge ?_
    rfl
  rintro acc rfl
  rw [take_map_all]
  rw [map_bl]
  refine ea_nil ?_
  refine wc_any rfl ?_
  refine ⟨_, rfl, ?_⟩
  have eA : ((List.range (looks.length - 1)).map fun i : Nat => decide (cf looks (i + 1) ≤ cf looks i)).any id = badA looks := by unfold badA; rw [List.any_map]; rfl
  rw [eA]
  refine ite_b (fun h => ?_) (fun hba => ?_)
  · refine s_one (s_raise1 tk er_InvalidTable (hr.mono hk2) (by rfl) ?_)
    refine ea_cons ?_
    refine e_str ?_
    refine ea_nil ?_
    refine ⟨rfl, hT _ ?_⟩
    unfold faultX
    rw [if_neg nl, hbk, if_neg (by decide), if_pos h]
  refine s_nil ?_
  refine s_cons (s_forKX tk 2 (passes_of rfl) rfl rfl fun W' tkb => ?_)
  refine ⟨fun i G => ∃ g3 g4, G = [.sh (.int (n : Nat)), .sh ld, .sh (dA .str rl), g3, g4, .no, .no] ∧ ((rl.map (·.1)).take i).any (badC n) = false, ⟨_, _, rfl, rfl⟩, ?_, ?_⟩
  · rintro i q2 G hq2 ⟨g3, g4, rfl, hfn⟩
    obtain ⟨e, he, hi, rfl⟩ : ∃ e ∈ rl, (rl.map (·.1))[i]? = some e.1 ∧ q2 = kk e.1 := by
      unfold keysA at hq2
      rw [List.getElem?_map] at hq2
      cases z : rl[i]? with
      | none => rw [z] at hq2; cases hq2
      | some e => rw [z] at hq2; exact ⟨e, List.mem_of_getElem? z, by rw [List.getElem?_map, z]; rfl, (Option.some.inj hq2).symm⟩
    have htk := take_get hi
    refine ⟨[(3, e.1.1), (4, e.1.2)], (a_tup rfl (as_cons (a_n 3 sc_check_table.nd) (as_cons (a_n 4 sc_check_table.nd) as_nil))), ?_⟩
    show S _ _ _ [_, _, _, _, _, _, _] _
    refine s_one (s_if ?_)
    refine TW.t ?_
    refine' tw_orD ?ha30 (fun hb => ?hb30) ?hc30
    case ha30 =>
      refine t_cmp ?_
      refine e_v 3 ?_
      refine e_int ?_
      refine w_lt ?_
      refine ⟨_, rfl, ?_⟩
      exact rfl
    case hb30 =>
      refine' tw_orD ?ha31 (fun hb => ?hb31) ?hc31
      case ha31 =>
        refine t_cmp ?_
        refine e_v 4 ?_
        refine e_int ?_
        refine w_lt ?_
        refine ⟨_, rfl, ?_⟩
        exact rfl
      case hb31 =>
        refine tw_or1 ?_
        refine t_not ?_
        refine' t_chainD ?ha32 ?hc32
        case ha32 =>
          refine e_int ?_
          refine e_bin ?_
          refine e_v 3 ?_
          refine e_v 4 ?_
          first | refine w_add ?_ | refine w_catT (by walk_at "sc") ?_ | refine w_addS (by walk_at "sc") ?_ | refine w_catL (by walk_at "sc") ?_
          refine w_le ?_
          refine ⟨rfl, fun hb => ?_⟩
          refine e_v 0 ?_
          refine w_le ?_
          exact rfl
        exact rfl
      exact rfl
    have eB : (decide (e.1.1 < 0) || (decide (e.1.2 < 0) || !(decide (1 ≤ e.1.1 + e.1.2) && decide (e.1.1 + e.1.2 ≤ (n : Int))))) = badC n e.1 := by
      unfold badC
      refine Bool.eq_iff_iff.mpr ?_
      simp only [Bool.or_eq_true, decide_eq_true_eq, Bool.not_eq_true', Bool.and_eq_false_iff, decide_eq_false_iff_not]
      omega
    rw [eB]
    refine ite_b (fun h => ?_) (fun h => ?_)
    · refine s_one (s_raise1 tkb er_InvalidTable (hr.mono hk2) (by rfl) ?_)
      refine ea_cons ?_
      refine e_str ?_
      refine ea_nil ?_
      refine ⟨rfl, hT _ ?_⟩
      unfold faultX
      rw [if_neg nl, hbk, if_neg (by decide), hba, if_neg (by decide), if_pos (List.any_eq_true.mpr ⟨e.1, List.mem_map_of_mem he, h⟩)]
    · exact s_nil ⟨_, _, rfl, by rw [htk, List.any_append, hfn]; simp [h]⟩
  rintro G ⟨g3, g4, rfl, hfn⟩
  have hbc : (rl.map (·.1)).any (badC n) = false := by
    rwa [show (keysA rl).length = (rl.map (·.1)).length by unfold keysA; rw [List.length_map, List.length_map], List.take_length] at hfn
  have rr2 : (n : Int) + 1 = ((n + 1 : Nat) : Int) := by omega
  refine s_cons (s_if ?_)
  refine t_val ?_
  refine e_callB (id := "any") (by rfl) m_any b_any ?_
  refine ea_cons ?_
  refine e_lc (own := [("wins", 3)]) rfl sc_check_table.nd (blkOk_by (N := N_check_table) (sc := defScope s_check_table) (by decide +kernel)) ?_
  refine i_range1 (by rfl) m_range ?_
  refine ea_cons ?_
  refine e_bin ?_
  refine e_v 0 ?_
  refine e_int ?_
  first | refine w_add ?_ | refine w_catT (by walk_at "sc") ?_ | refine w_addS (by walk_at "sc") ?_ | refine w_catL (by walk_at "sc") ?_
  refine ea_nil ?_
  refine ⟨_, rfl, by walk_at "sc", by walk_at "sc", ?_⟩
  rw [rr2, rangeD_nat]
  refine' ⟨?lcl33, _, lc_of (List.range (n + 1)) (fun i => Dt.int (i : Nat)) (fun i => .bl (!has rl ((i : Int), (n : Int) - (i : Int)))) (fun i => [(3, Dt.int (i : Nat))]) ?lct33 ?lcm33 ?lce33, ?lcc33⟩
  case lcl33 =>
    rw [List.length_map, List.length_range]; omega
  case lct33 =>
    rintro t ht Y ⟨s', H', C, cl, fp, rfl⟩
    exact (a_n 3 sc_check_table.nd)
  case lcm33 =>
    intro t p hp
    simp at hp
    simp [hp]
  case lce33 =>
    rintro t ht Y ⟨s', H', C, cl, fp, rfl⟩
    refine e_dnotinA hr.u1 ?_
    refine e_kk ?_
    refine ea_cons ?_
    refine e_v 3 ?_
    refine ea_cons ?_
    refine e_bin ?_
    refine e_v 0 ?_
    refine e_v 3 ?_
    refine w_sub ?_
    refine ea_nil ?_
    refine ⟨(_, _), rfl, ?_⟩
    refine ⟨_, rfl, ?_⟩
    refine e_v 2 ?_
    refine ⟨_, _, _, rfl, ?_⟩
    rfl
  rintro acc rfl
  rw [take_map_all]
  rw [map_bl]
  refine ea_nil ?_
  refine wc_any rfl ?_
  refine ⟨_, rfl, ?_⟩
  have eF : ((List.range (n + 1)).map fun i : Nat => !has rl ((i : Int), (n : Int) - (i : Int))).any id = badF n (rl.map (·.1)) := by
    unfold badF
    rw [List.any_map, show ((n : Int) + 1).toNat = n + 1 by omega]
    congr 1
    funext i
    show (!has rl ((i : Int), (n : Int) - (i : Int))) = _
    congr 1
    refine Bool.eq_iff_iff.mpr ?_
    rw [has_iffX, decide_eq_true_eq]
  rw [eF]
  refine ite_b (fun h => ?_) (fun hbf => ?_)
  · refine s_one (s_raise1 tk er_InvalidTable (hr.mono hk2) (by rfl) ?_)
    refine ea_cons ?_
    refine e_str ?_
    refine ea_nil ?_
    refine ⟨rfl, hT _ ?_⟩
    unfold faultX
    rw [if_neg nl, hbk, if_neg (by decide), hba, if_neg (by decide), hbc, if_neg (by decide), if_pos h]
  have hfa : faultX (n : Int) looks (rl.map (·.1)) = none := by
    unfold faultX
    rw [if_neg nl, hbk, if_neg (by decide), hba, if_neg (by decide), hbc, if_neg (by decide), hbf, if_neg (by decide)]
  refine s_nil ?_
  refine s_one (s_for (passes_of rfl) rfl ?_)
  refine i_range2 (by rfl) m_range ?_
  refine ea_cons ?_
  refine e_int ?_
  refine ea_cons ?_
  refine e_bin ?_
  refine e_v 0 ?_
  refine e_int ?_
  first | refine w_add ?_ | refine w_catT (by walk_at "sc") ?_ | refine w_addS (by walk_at "sc") ?_ | refine w_catL (by walk_at "sc") ?_
  refine ea_nil ?_
  refine ⟨_, _, rfl, by walk_at "sc", ?_⟩
  refine ⟨fun i G => ∃ g3 g4 g5, G = [.sh (.int (n : Nat)), .sh ld, .sh (dA .str rl), g3, g4, g5, .no] ∧ (cnt i).flatMap (stepB rl) = [], ⟨_, _, _, rfl, rfl⟩, ?_, ?_⟩
  · rintro i d G hd ⟨g3, g4, g5, rfl, hz⟩
    obtain ⟨hi, rfl⟩ := rangeD_get hd
    have hi : i < n := by omega
    refine ⟨_, (a_n 5 sc_check_table.nd), ?_⟩
    show S _ _ _ [_, _, _, _, _, _, _] _
    refine s_one (s_for (passes_of rfl) rfl ?_)
    refine i_range1 (by rfl) m_range ?_
    refine ea_cons ?_
    refine e_bin ?_
    refine e_v 5 ?_
    refine e_int ?_
    first | refine w_add ?_ | refine w_catT (by walk_at "sc") ?_ | refine w_addS (by walk_at "sc") ?_ | refine w_catL (by walk_at "sc") ?_
    refine ea_nil ?_
    refine ⟨_, rfl, by walk_at "sc", by walk_at "sc", ?_⟩
    refine ⟨fun j G => ∃ g3, G = [.sh (.int (n : Nat)), .sh ld, .sh (dA .str rl), g3, g4, .sh (.int (1 + (i : Nat))), .no] ∧ (cnt i ++ cRow (1 + (i : Nat)) j).flatMap (stepB rl) = [], ⟨_, rfl, by show List.flatMap _ (cnt i ++ []) = []; rw [List.append_nil]; exact hz⟩, ?_, ?_⟩
    · rintro j d G hd ⟨g3, rfl, hz2⟩
      obtain ⟨hj, rfl⟩ := rangeD_get hd
      have hj : j < i + 2 := by omega
      have nxt : stepB rl ((j : Int), 1 + (i : Int) - (j : Int)) = [] → (cnt i ++ cRow (1 + (i : Nat)) (j + 1)).flatMap (stepB rl) = [] := fun z => by
        rw [cRow_succ, ← List.append_assoc, List.flatMap_append, hz2, List.flatMap_cons, z]; rfl
      rw [Int.zero_add]
      refine ⟨_, (a_n 3 sc_check_table.nd), ?_⟩
      show S _ _ _ [_, _, _, _, _, _, _] _
      refine s_one (s_if ?_)
      refine t_dinA hr.u1 ?_
      refine e_kk ?_
      refine ea_cons ?_
      refine e_v 3 ?_
      refine ea_cons ?_
      refine e_bin ?_
      refine e_v 5 ?_
      refine e_v 3 ?_
      refine w_sub ?_
      refine ea_nil ?_
      refine ⟨(_, _), rfl, ?_⟩
      refine ⟨_, rfl, ?_⟩
      refine e_v 2 ?_
      refine ⟨_, _, _, rfl, ?_⟩
      cases hk : lk rl ((j : Nat), 1 + (i : Nat) - ((j : Nat) : Int)) with
      | none =>
        refine ite_f (by unfold has; rw [hk]; rfl) ?_
        exact s_nil ⟨_, rfl, nxt (by unfold stepB; rw [hk])⟩
      | some x =>
        refine ite_t (by unfold has; rw [hk]; rfl) ?_
        by_cases ho : x ∈ oddW
        · obtain ⟨l, rfl, hl9, hn⟩ := odd_rd ho
          obtain ⟨l2, e2⟩ := badW_hit hi hj hz2 (show stepB rl ((j : Int), 1 + (i : Int) - (j : Int)) = [SX.S l] by unfold stepB; rw [hk]; dsimp only; rw [if_pos ho])
          refine s_one (s_exprX (ex_call tk c_read_word hr (by rfl) ?_))
          refine ea_cons ?_
          refine e_dgetA hr.u1 ?_
          refine e_v 2 ?_
          refine ⟨_, _, _, rfl, ?_⟩
          refine e_kk ?_
          refine ea_cons ?_
          refine e_v 3 ?_
          refine ea_cons ?_
          refine e_bin ?_
          refine e_v 5 ?_
          refine e_v 3 ?_
          refine w_sub ?_
          refine ea_nil ?_
          refine ⟨(_, _), rfl, ?_⟩
          refine ⟨_, _, rfl, by walk_at "sc", ?_⟩
          refine ea_nil ?_
          exact ⟨rfl, l, rfl, hl9, fun w hw => (by rw [hn] at hw; cases hw), fun _ => hW _ l2 hfa e2⟩
        · obtain ⟨l, wd, rfl, hl9, hw⟩ := ((hwk _ (lk_mem hk)).wd ho).rd
          refine s_one (s_exprX (ex_call tk c_read_word hr (by rfl) ?_))
          refine ea_cons ?_
          refine e_dgetA hr.u1 ?_
          refine e_v 2 ?_
          refine ⟨_, _, _, rfl, ?_⟩
          refine e_kk ?_
          refine ea_cons ?_
          refine e_v 3 ?_
          refine ea_cons ?_
          refine e_bin ?_
          refine e_v 5 ?_
          refine e_v 3 ?_
          refine w_sub ?_
          refine ea_nil ?_
          refine ⟨(_, _), rfl, ?_⟩
          refine ⟨_, _, rfl, by walk_at "sc", ?_⟩
          refine ea_nil ?_
          refine ⟨rfl, l, rfl, hl9, fun w _ => ?_, fun hn => (by rw [hw] at hn; cases hn)⟩
          exact ⟨_, rfl, nxt (by unfold stepB; rw [hk]; dsimp only; rw [if_neg ho])⟩
    · rintro G ⟨g3, rfl, hz2⟩
      refine ⟨_, _, _, rfl, ?_⟩
      rw [rangeD_length, show (1 + (i : Int) + 1).toNat = i + 2 by omega] at hz2
      rw [cnt_succ]
      exact hz2
  · rintro G ⟨g3, g4, g5, rfl, hz⟩
    rw [rangeD_length, show ((n : Int) + 1 - 1).toNat = n by omega] at hz
    exact hq hfa (badW_nil hz)

abbrev N_Table_is_end : List Str := ["self", "wins", "losses"]
theorem sc_Table_is_end : FnScope N_Table_is_end ["self", "wins", "losses"] (defScope s_Table_is_end) := ⟨rfl, rfl, rfl, by decide +kernel, rfl, by decide +kernel, by decide +kernel⟩
theorem ok_Table_is_end {f : Addr} {fd : FuncData} {k : Nat} {dvs : List V} {kws : List (Str × V)} {C_Table : Addr} (F : FD K "is_end" "Table.is_end" s_Table_is_end dvs kws f fd) (pc_Table : TableC K C_Table) : FnOk P w K mg base (L2N.CX P w) (k + 1) f fd ["self", "wins", "losses"] (spD K 3 (ph_Table_is_end C_Table)) := by
  refine fn_ok F sc_Table_is_end rfl fun X cdv A outer s H E ds q xd hX hr hph hl Fr wf xok => ?_
  subst hX
  obtain ⟨T, ns, xs, wi, lo, rfl, hq⟩ := hph
  show S _ _ _ [_, _, _] _
  refine s_one (s_ret ?_)
  refine' e_andD ?ha34 (fun hb => ?hb34) ?hc34
  case ha34 =>
    refine e_cmp ?_
    refine e_bin ?_
    refine e_v 1 ?_
    refine e_v 2 ?_
    first | refine w_add ?_ | refine w_catT (by walk_at "sc") ?_ | refine w_addS (by walk_at "sc") ?_ | refine w_catL (by walk_at "sc") ?_
    refine e_fld ?_
    refine e_v 0 ?_
    refine ⟨_, _, _, _, rfl, pc_Table.cl, pc_Table.na_looks, rfl, ?_⟩
    first | refine w_inS ?_ | refine w_inT ?_ | refine w_inL ?_ | refine w_inD hr.u65 (by walk_at "ok") (by walk_at "ok") ?_
    exact rfl
  case hb34 =>
    refine e_one ?_
    refine e_dinA hr.u1 ?_
    refine e_kk ?_
    refine ea_cons ?_
    refine e_v 1 ?_
    refine ea_cons ?_
    refine e_v 2 ?_
    refine ea_nil ?_
    refine ⟨(_, _), rfl, ?_⟩
    refine ⟨_, rfl, ?_⟩
    refine e_fld ?_
    refine e_v 0 ?_
    refine ⟨_, _, _, _, rfl, pc_Table.cl, pc_Table.na_entries, rfl, ?_⟩
    refine ⟨_, _, _, rfl, ?_⟩
    exact rfl
  exact hq

abbrev N_Table_spread : List Str := ["self", "wins", "losses", "found", "tries", "won", "here", "after"]
theorem sc_Table_spread : FnScope N_Table_spread ["self", "wins", "losses"] (defScope s_Table_spread) := ⟨rfl, rfl, rfl, by decide +kernel, rfl, by decide +kernel, by decide +kernel⟩
theorem ok_Table_spread {f : Addr} {fd : FuncData} {k : Nat} {dvs : List V} {kws : List (Str × V)} {C_Table : Addr} (F : FD K "spread" "Table.spread" s_Table_spread dvs kws f fd) (m_range : mg "range" = none) (c_Table_is_end : FnM P w K mg base k C_Table "is_end" ["self", "wins", "losses"] [] (spD K 3 (ph_Table_is_end C_Table))) (pc_Table : TableC K C_Table) : FnOk P w K mg base (L2N.CX P w) (k + 1) f fd ["self", "wins", "losses"] (spD K 3 (ph_Table_spread C_Table)) := by
  refine fn_ok F sc_Table_spread rfl fun X cdv A outer s H E ds q xd hX hr hph hl Fr wf xok => ?_
  subst hX
  obtain ⟨T, ns, xs, wi, lo, rfl, ⟨hno, hlim, hw0, hl0, hwl⟩, hq⟩ := hph
  have hno2 : ((("limit" : Str) :: "looks" :: "entries" :: ns).any fun z => z == ("is_end" : Str)) = false := hno
  show S _ _ _ [_, _, _, _, _, _, _, _] _
  refine s_cons (s_aO 3 sc_Table_spread.nd (ew_disp1A .int hr.u0 ?_))
  refine e_kk ?_
  refine ea_cons ?_
  refine e_v 1 ?_
  refine ea_cons ?_
  refine e_v 2 ?_
  refine ea_nil ?_
  refine ⟨(_, _), rfl, ?_⟩
  refine ⟨_, rfl, ?_⟩
  refine e_int ?_
  refine ⟨_, rfl, ?_⟩
  show S _ _ _ [_, _, _, _, _, _, _, _] _
  refine s_cons (s_for (passes_of rfl) rfl ?_)
  refine i_range2 (by rfl) m_range ?_
  refine ea_cons ?_
  refine e_bin ?_
  refine e_v 1 ?_
  refine e_v 2 ?_
  first | refine w_add ?_ | refine w_catT (by walk_at "sc") ?_ | refine w_addS (by walk_at "sc") ?_ | refine w_catL (by walk_at "sc") ?_
  refine ea_cons ?_
  refine e_fld ?_
  refine e_v 0 ?_
  refine ⟨_, _, _, _, rfl, pc_Table.cl, pc_Table.na_limit, rfl, ?_⟩
  refine ea_nil ?_
  refine ⟨_, _, rfl, by walk_at "sc", ?_⟩
  refine ⟨fun i G => ∃ g5 g6 g7 g8, G = [.sh (tb3 C_Table T ns xs), .sh (.int wi), .sh (.int lo), .ow (dA .int (sprI (T.go (wi, lo)) wi lo i)), g5, g6, g7, g8], ⟨_, _, _, _, rfl⟩, ?_, ?_⟩
  · rintro i d G hd ⟨g5, g6, g7, g8, rfl⟩
    obtain ⟨hi, rfl⟩ := rangeD_get hd
    refine ⟨_, (a_n 4 sc_Table_spread.nd), ?_⟩
    show S _ _ _ [_, _, _, _, _, _, _, _] _
    refine s_one (s_for (passes_of rfl) rfl ?_)
    refine i_range2 (by rfl) m_range ?_
    refine ea_cons ?_
    refine e_v 1 ?_
    refine ea_cons ?_
    refine e_bin ?_
    refine e_bin ?_
    refine e_v 4 ?_
    refine e_v 2 ?_
    refine w_sub ?_
    refine e_int ?_
    refine w_add ?_
    refine ea_nil ?_
    refine ⟨_, _, rfl, by omega, ?_⟩
    refine ⟨fun j G => ∃ g6 g7 g8, G = [.sh (tb3 C_Table T ns xs), .sh (.int wi), .sh (.int lo), .ow (dA .int ((sRow wi (wi + lo + (i : Nat)) j).foldl (stepM (T.go (wi, lo))) (sprI (T.go (wi, lo)) wi lo i))), .sh (.int (wi + lo + (i : Nat))), g6, g7, g8], ⟨_, _, _, rfl⟩, ?_, ?_⟩
    · rintro j d G hd ⟨g6, g7, g8, rfl⟩
      obtain ⟨hj, rfl⟩ := rangeD_get hd
      have hlen := spr_len (T.go (wi, lo)) (w := wi) (l := lo) (n := i) (j := j) (t := wi + lo + (i : Nat)) (by omega) (by omega)
      have est2 : (sRow wi (wi + lo + (i : Nat)) (j + 1)).foldl (stepM (T.go (wi, lo))) (sprI (T.go (wi, lo)) wi lo i) = stepM (T.go (wi, lo)) ((sRow wi (wi + lo + (i : Nat)) j).foldl (stepM (T.go (wi, lo))) (sprI (T.go (wi, lo)) wi lo i)) (wi + (j : Nat), wi + lo + (i : Nat) - (wi + (j : Nat))) := by rw [sRow_succ, List.foldl_append]; rfl
      have fin : ∀ (m : Al Int) (g6 g7 g8 : Sl), m = stepM (T.go (wi, lo)) ((sRow wi (wi + lo + (i : Nat)) j).foldl (stepM (T.go (wi, lo))) (sprI (T.go (wi, lo)) wi lo i)) (wi + (j : Nat), wi + lo + (i : Nat) - (wi + (j : Nat))) → ∃ g6' g7' g8', ([.sh (tb3 C_Table T ns xs), .sh (.int wi), .sh (.int lo), .ow (dA .int m), .sh (.int (wi + lo + (i : Nat))), g6, g7, g8] : List Sl) = [.sh (tb3 C_Table T ns xs), .sh (.int wi), .sh (.int lo), .ow (dA .int ((sRow wi (wi + lo + (i : Nat)) (j + 1)).foldl (stepM (T.go (wi, lo))) (sprI (T.go (wi, lo)) wi lo i))), .sh (.int (wi + lo + (i : Nat))), g6', g7', g8'] := fun m g6 g7 g8 e => ⟨g6, g7, g8, by rw [est2, e]⟩
      generalize (sRow wi (wi + lo + (i : Nat)) j).foldl (stepM (T.go (wi, lo))) (sprI (T.go (wi, lo)) wi lo i) = M at fin hlen ⊢
      refine ⟨_, (a_n 5 sc_Table_spread.nd), ?_⟩
      show S _ _ _ [_, _, _, _, _, _, _, _] _
      refine s_cons (s_a 6 sc_Table_spread.nd ?_)
      refine e_kk ?_
      refine ea_cons ?_
      refine e_v 5 ?_
      refine ea_cons ?_
      refine e_bin ?_
      refine e_v 4 ?_
      refine e_v 5 ?_
      refine w_sub ?_
      refine ea_nil ?_
      refine ⟨(_, _), rfl, ?_⟩
      show S _ _ _ [_, _, _, _, _, _, _, _] _
      refine s_one (s_if (t_bor 3 rfl ?_))
      show VS.T _ _ [_, _, _, _, _, _, _, _] _ _
      refine TW.t ?_
      refine' tw_andD ?ha35 (fun hb => ?hb35) ?hc35
      case ha35 =>
        refine t_dinA hr.u1 ?_
        refine e_v 6 ?_
        refine ⟨_, rfl, ?_⟩
        refine e_v 3 ?_
        refine ⟨_, _, _, rfl, ?_⟩
        exact rfl
      case hb35 =>
        refine tw_and1 ?_
        refine TW.t ?_
        refine' tw_orD ?ha36 (fun hb => ?hb36) ?hc36
        case ha36 =>
          refine t_cmp ?_
          refine e_asK ?_
          refine e_v 6 ?_
          refine ⟨_, rfl, ?_⟩
          refine e_tup ?_
          refine ea_cons ?_
          refine e_v 1 ?_
          refine ea_cons ?_
          refine e_v 2 ?_
          refine ea_nil ?_
          refine ⟨Nat.le_of_ble_eq_true rfl, ?_⟩
          first | refine w_eqI ?_ | refine w_eqT ?_ | refine w_eqB ?_ | refine w_eqD hr.units (by walk_at "ok") (by walk_at "ok") ?_
          refine ⟨_, rfl, ?_⟩
          exact rfl
        case hb36 =>
          refine tw_or1 ?_
          refine t_not ?_
          refine t_val ?_
          refine e_meth (dds := []) pc_Table.cl c_Table_is_end hr (fun _ => .nil) ?_
          refine e_v 0 ?_
          first | refine ⟨_, _, rfl, rfl, ?_⟩ | refine ⟨_, _, rfl, by assumption, ?_⟩
          refine ea_cons ?_
          refine e_v 5 ?_
          refine ea_cons ?_
          refine e_bin ?_
          refine e_v 4 ?_
          refine e_v 5 ?_
          refine w_sub ?_
          refine ea_nil ?_
          refine ⟨rfl, ?_⟩
          refine u_Table_is_end (by walk_at "sc") ?_
          refine ⟨_, rfl, ?_⟩
          exact rfl
        exact rfl
      have eE : ∀ a b : Int, eqD (.tup [.int (a, b).1, .int (a, b).2]) (.tup [.int wi, .int lo]) = decide ((a, b) = (wi, lo)) := fun a b => eqD_rat (a, b) (wi, lo)
      rw [eE]
      cases hk : lk M (wi + (j : Nat), wi + lo + (i : Nat) - (wi + (j : Nat))) with
      | none =>
        refine ite_f (by unfold has; rw [hk]; rfl) ?_
        exact s_nil (fin _ _ _ _ (by rw [stepM_none hk]))
      | some v =>
        cases hg : T.go (wi, lo) (wi + (j : Nat), wi + lo + (i : Nat) - (wi + (j : Nat)))
        · refine ite_f (by unfold has; rw [hk]; exact hg) ?_
          exact s_nil (fin _ _ _ _ (by rw [stepM_stop hg]))
        · refine ite_t (by unfold has; rw [hk]; exact hg) ?_
          have eG := stepM_go hk hg
          rw [eG] at fin
          clear eG hg
          obtain ⟨a, ha⟩ : ∃ a : Int, a = wi + (j : Nat) := ⟨_, rfl⟩
          obtain ⟨t, ht⟩ : ∃ t : Int, t = wi + lo + (i : Nat) := ⟨_, rfl⟩
          rw [← ha, ← ht] at fin hk ⊢
          refine s_one (s_for (passes_of rfl) rfl ?_)
          refine i_tup ?_
          refine e_tup ?_
          refine ea_cons ?_
          refine e_kk ?_
          refine ea_cons ?_
          refine e_bin ?_
          refine e_v 5 ?_
          refine e_int ?_
          first | refine w_add ?_ | refine w_catT (by walk_at "sc") ?_ | refine w_addS (by walk_at "sc") ?_ | refine w_catL (by walk_at "sc") ?_
          refine ea_cons ?_
          refine e_bin ?_
          refine e_v 4 ?_
          refine e_v 5 ?_
          refine w_sub ?_
          refine ea_nil ?_
          refine ⟨(_, _), rfl, ?_⟩
          refine ea_cons ?_
          refine e_kk ?_
          refine ea_cons ?_
          refine e_v 5 ?_
          refine ea_cons ?_
          refine e_bin ?_
          refine e_bin ?_
          refine e_v 4 ?_
          refine e_v 5 ?_
          refine w_sub ?_
          refine e_int ?_
          first | refine w_add ?_ | refine w_catT (by walk_at "sc") ?_ | refine w_addS (by walk_at "sc") ?_ | refine w_catL (by walk_at "sc") ?_
          refine ea_nil ?_
          refine ⟨(_, _), rfl, ?_⟩
          refine ea_nil ?_
          refine ⟨Nat.le_of_ble_eq_true rfl, ?_⟩
          refine ⟨_, rfl, ?_⟩
          have hne : ¬ ((a + 1, t - a) : Int × Int) = (a, t - a) := fun z => by have : a + 1 = a := congrArg Prod.fst z; omega
          refine ⟨fun n G => ∃ g8, G = [.sh (tb3 C_Table T ns xs), .sh (.int wi), .sh (.int lo), .ow (dA .int (if n = 0 then M else if n = 1 then put M (a + 1, t - a) ((lk M (a + 1, t - a)).getD 0 + v) else put (put M (a + 1, t - a) ((lk M (a + 1, t - a)).getD 0 + v)) (a, t - a + 1) ((lk (put M (a + 1, t - a) ((lk M (a + 1, t - a)).getD 0 + v)) (a, t - a + 1)).getD 0 + v))), .sh (.int t), .sh (.int a), .sh (.key (kk (a, t - a))), g8], ⟨_, rfl⟩, ?_, ?_⟩
          · rintro n d G hd ⟨g8, rfl⟩
            match n, hd with
            | 0, hd =>
              cases hd
              rw [if_pos rfl]
              refine ⟨_, (a_n 7 sc_Table_spread.nd), ?_⟩
              show S _ _ _ [_, _, _, _, _, _, _, _] _
              have hl9 : M.length < 100000 := by omega
              refine s_one (s_dputA 3 hr.u1 rfl rfl (by first | exact .inl rfl | exact .inr (.inl rfl) | exact .inr (.inr rfl)) (by walk_at "sc") ?_)
              refine e_bor 3 rfl ?_
              refine e_bin ?_
              refine e_dget2A hr.u1 ?_
              refine e_v 3 ?_
              refine ⟨_, rfl, ?_⟩
              refine e_v 7 ?_
              refine ⟨_, rfl, ?_⟩
              refine e_int ?_
              refine ⟨_, rfl, ?_⟩
              refine e_dgetA hr.u1 ?_
              refine e_v 3 ?_
              refine ⟨_, _, _, rfl, ?_⟩
              refine e_v 6 ?_
              refine ⟨_, _, rfl, by walk_at "sc", ?_⟩
              first | refine w_add ?_ | refine w_catT (by walk_at "sc") ?_ | refine w_addS (by walk_at "sc") ?_ | refine w_catL (by walk_at "sc") ?_
              refine ⟨rfl, ?_⟩
              refine ⟨_, rfl, ?_⟩
              refine e_v 7 ?_
              refine ⟨_, rfl, ?_⟩
              exact ⟨_, rfl⟩
            | 1, hd =>
              cases hd
              rw [if_neg (by decide), if_pos rfl]
              have hl9 : (put M (a + 1, t - a) ((lk M (a + 1, t - a)).getD 0 + v)).length < 100000 := by have := put_len M (a + 1, t - a) ((lk M (a + 1, t - a)).getD 0 + v); omega
              have hk2 : lk (put M (a + 1, t - a) ((lk M (a + 1, t - a)).getD 0 + v)) (a, t - a) = some v := by rw [lk_put, if_neg hne]; exact hk
              generalize put M (a + 1, t - a) ((lk M (a + 1, t - a)).getD 0 + v) = M1 at *
              refine ⟨_, (a_n 7 sc_Table_spread.nd), ?_⟩
              show S _ _ _ [_, _, _, _, _, _, _, _] _
              refine s_one (s_dputA 3 hr.u1 rfl rfl (by first | exact .inl rfl | exact .inr (.inl rfl) | exact .inr (.inr rfl)) (by walk_at "sc") ?_)
              refine e_bor 3 rfl ?_
              refine e_bin ?_
              refine e_dget2A hr.u1 ?_
              refine e_v 3 ?_
              refine ⟨_, rfl, ?_⟩
              refine e_v 7 ?_
              refine ⟨_, rfl, ?_⟩
              refine e_int ?_
              refine ⟨_, rfl, ?_⟩
              refine e_dgetA hr.u1 ?_
              refine e_v 3 ?_
              refine ⟨_, _, _, rfl, ?_⟩
              refine e_v 6 ?_
              refine ⟨_, _, rfl, by walk_at "sc", ?_⟩
              first | refine w_add ?_ | refine w_catT (by walk_at "sc") ?_ | refine w_addS (by walk_at "sc") ?_ | refine w_catL (by walk_at "sc") ?_
              refine ⟨rfl, ?_⟩
              refine ⟨_, rfl, ?_⟩
              refine e_v 7 ?_
              refine ⟨_, rfl, ?_⟩
              exact ⟨_, rfl⟩
            | n + 2, hd => cases hd
          · rintro G ⟨g8, rfl⟩
            exact fin _ _ _ _ rfl
    · rintro G ⟨g6, g7, g8, rfl⟩
      rw [rangeD_length]
      exact ⟨_, _, _, _, by rw [sprI_succ]⟩
  · rintro G ⟨g5, g6, g7, g8, rfl⟩
    rw [rangeD_length]
    refine s_one (s_ret ?_)
    refine e_v 3 ?_
    exact hq

abbrev N_Table___contains__ : List Str := ["self", "counts"]
theorem sc_Table___contains__ : FnScope N_Table___contains__ ["self", "counts"] (defScope s_Table___contains__) := ⟨rfl, rfl, rfl, by decide +kernel, rfl, by decide +kernel, by decide +kernel⟩
theorem ok_Table___contains__ {f : Addr} {fd : FuncData} {k : Nat} {dvs : List V} {kws : List (Str × V)} {C_Table : Addr} (F : FD K "__contains__" "Table.__contains__" s_Table___contains__ dvs kws f fd) (c_Table_is_end : FnM P w K mg base k C_Table "is_end" ["self", "wins", "losses"] [] (spD K 3 (ph_Table_is_end C_Table))) (pc_Table : TableC K C_Table) : FnOk P w K mg base (L2N.CX P w) (k + 1) f fd ["self", "counts"] (spD K 2 (ph_Table___contains__ C_Table)) := by
  refine fn_ok F sc_Table___contains__ rfl fun X cdv A outer s H E ds q xd hX hr hph hl Fr wf xok => ?_
  subst hX
  obtain ⟨T, ns, xs, c, rfl, hno, hq⟩ := hph
  have hno2 : ((("limit" : Str) :: "looks" :: "entries" :: "reached" :: ns).any fun z => z == ("is_end" : Str)) = false := hno
  show S _ _ _ [_, _] _
  refine s_one (s_ret ?_)
  refine' e_andD ?ha37 (fun hb => ?hb37) ?hc37
  case ha37 =>
    refine e_dinA hr.u1 ?_
    refine e_v 1 ?_
    refine ⟨_, rfl, ?_⟩
    refine e_fld ?_
    refine e_v 0 ?_
    refine ⟨_, _, _, _, rfl, pc_Table.cl, pc_Table.na_reached, rfl, ?_⟩
    refine ⟨_, _, _, rfl, ?_⟩
    exact rfl
  case hb37 =>
    refine e_one ?_
    refine e_meth (dds := []) pc_Table.cl c_Table_is_end hr (fun _ => .nil) ?_
    refine e_v 0 ?_
    first | refine ⟨_, _, rfl, rfl, ?_⟩ | refine ⟨_, _, rfl, by assumption, ?_⟩
    refine ea_cons ?_
    refine e_ix ?_
    refine e_asK ?_
    refine e_v 1 ?_
    refine ⟨_, rfl, ?_⟩
    refine e_int ?_
    first | refine wi_tup0 ?_ | refine wi_tup1 ?_ | refine wi_tup2 ?_ | refine wi_tup (by walk_at "sc") ?_ | refine wi_lst (by walk_at "sc") ?_ | refine wi_str (by walk_at "sc") (by walk_at "sc") ?_
    refine ea_cons ?_
    refine e_ix ?_
    refine e_asK ?_
    refine e_v 1 ?_
    refine ⟨_, rfl, ?_⟩
    refine e_int ?_
    first | refine wi_tup0 ?_ | refine wi_tup1 ?_ | refine wi_tup2 ?_ | refine wi_tup (by walk_at "sc") ?_ | refine wi_lst (by walk_at "sc") ?_ | refine wi_str (by walk_at "sc") (by walk_at "sc") ?_
    refine ea_nil ?_
    refine ⟨rfl, ?_⟩
    refine u_Table_is_end (by walk_at "sc") ?_
    exact rfl
  exact hq

abbrev N_Table___init__ : List Str := ["self", "limit", "looks", "rule", "counts", "tries", "wins", "one"]
theorem sc_Table___init__ : FnScope N_Table___init__ ["self", "limit", "looks", "rule"] (defScope s_Table___init__) := ⟨rfl, rfl, rfl, by decide +kernel, rfl, by decide +kernel, by decide +kernel⟩
theorem ok_Table___init__ {f : Addr} {fd : FuncData} {k : Nat} {dvs : List V} {kws : List (Str × V)} {C_InvalidTable : Addr} {C_InvalidWord : Addr} {C_Table : Addr} (F : FD K "__init__" "Table.__init__" s_Table___init__ dvs kws f fd) (m_range : mg "range" = none) (m_tuple : mg "tuple" = none) (c_check_table : Fn P w K mg base k "check_table" ["limit", "looks", "rule"] [] (spD K 3 (ph_check_tableX C_InvalidTable C_InvalidWord))) (c_Table_spread : FnM P w K mg base k C_Table "spread" ["self", "wins", "losses"] [] (spD K 3 (ph_Table_spread C_Table))) (c_Table___contains__ : FnM P w K mg base k C_Table "__contains__" ["self", "counts"] [] (spD K 2 (ph_Table___contains__ C_Table))) (pc_Table : TableC K C_Table) : FnOk P w K mg base (L2N.CX P w) (k + 1) f fd ["self", "limit", "looks", "rule"] (spIni K C_Table 3 (ph_Table___init__X C_Table C_InvalidTable C_InvalidWord)) := by
  refine iniD_okX F sc_Table___init__ rfl fun X cdv A outer s H E a ds q xd hX hr hph hl tk => ?_
  subst hX
  obtain ⟨lim, looks, rl, ld, rfl, ⟨gv, hld⟩, hq, hI, hW⟩ := hph
  show S _ _ _ [.ow (.at_ a (.obj C_Table [] [])), .sh (.int lim), .sh ld, .sh (dA .str rl), .no, .no, .no, .no] _
  refine s_cons (s_exprX (ex_call tk c_check_table hr (by rfl) ?_))
  refine ea_cons ?_
  refine e_v 1 ?_
  refine ea_cons ?_
  refine e_v 2 ?_
  refine ea_cons ?_
  refine e_v 3 ?_
  refine ea_nil ?_
  refine ⟨rfl, lim, looks, rl, ld, rfl, ⟨gv, hld⟩, fun hf hb => ?_, hI, hW⟩
  have h30 : 1 ≤ lim ∧ lim ≤ 30 := by
    unfold faultX at hf
    by_cases z : lim < 1 ∨ 30 < lim
    · rw [if_pos z] at hf; cases hf
    · omega
  obtain ⟨lim, rfl⟩ : ∃ n : Nat, lim = (n : Int) := ⟨lim.toNat, by omega⟩
  rw [show ((lim : Int)).toNat = lim from Int.toNat_natCast lim] at hb hq
  have hv : Vr lim looks rl := vr_ofX gv.2.2.1 gv.2.2.2 hf hb
  replace hq := hq hf hb
  have hl1 := hv.l1
  have hl30 := hv.l30
  have hcl := cnt_len hl30
  show S _ _ _ [.ow (.at_ a (.obj C_Table [] [])), .sh (.int (lim : Nat)), .sh ld, .sh (dA .str rl), .no, .no, .no, .no] _
  refine s_cons (s_fldO 0 rfl rfl (by first | exact .inl rfl | exact .inr (.inl rfl) | exact .inr (.inr rfl)) pc_Table.cl pc_Table.na_limit (by decide) ?_)
  refine e_v 1 ?_
  show S _ _ _ [.ow (.at_ a (.obj C_Table ["limit"] [.int (lim : Nat)])), .sh (.int (lim : Nat)), .sh ld, .sh (dA .str rl), .no, .no, .no, .no] _
  refine s_cons (s_fldO 0 rfl rfl (by first | exact .inl rfl | exact .inr (.inl rfl) | exact .inr (.inr rfl)) pc_Table.cl pc_Table.na_looks (by decide) ?_)
  refine e_callTy (id := "tuple") (by rfl) m_tuple b_tuple ?_
  refine ea_cons ?_
  refine e_v 2 ?_
  refine ea_nil ?_
  refine wc_tuple_ld hld ?_
  show S _ _ _ [.ow (.at_ a (.obj C_Table ["limit", "looks"] [.int (lim : Nat), .tup (looks.map .int)])), .sh (.int (lim : Nat)), .sh ld, .sh (dA .str rl), .no, .no, .no, .no] _
  refine s_cons (s_lc2 4 (own := [("tries", 5), ("wins", 6)]) (vs1 := [6]) rfl sc_Table___init__.nd rfl rfl (sw_true rfl rfl rfl (by decide +kernel)) (blkOk_by (N := N_Table___init__) (sc := defScope s_Table___init__) (by decide +kernel)) (by decide) ?_)
  refine i_range2 (by rfl) m_range ?_
  refine ea_cons ?_
  refine e_int ?_
  refine ea_cons ?_
  refine e_bin ?_
  refine e_v 1 ?_
  refine e_int ?_
  refine w_add ?_
  refine ea_nil ?_
  refine ⟨_, _, rfl, by omega, ?_⟩
  refine ⟨fun i acc => acc = (cnt i).map fun c => Dt.key (kk c), ⟨rfl, ?_⟩, ?_⟩
  · rintro i d acc hd rfl
    obtain ⟨hi, rfl⟩ := rangeD_get hd
    refine ⟨[(5, .int (1 + (i : Nat)))], fun Y bY => (by obtain ⟨s', H', C, cl, fp, rfl⟩ := bY; exact a_n 5 sc_Table___init__.nd), by simp, ?_⟩
    rintro Y ⟨s', H', C, cl, fp, rfl⟩
    refine i_range1 (by rfl) m_range ?_
    refine ea_cons ?_
    refine e_bin ?_
    refine e_v 5 ?_
    refine e_int ?_
    refine w_add ?_
    refine ea_nil ?_
    refine ⟨_, rfl, by omega, by omega, ?_⟩
    refine ⟨fun j acc => acc = ((cnt i) ++ cRow (1 + (i : Nat)) j).map fun c => Dt.key (kk c), by show _ = List.map _ (cnt i ++ []); rw [List.append_nil], ?_, ?_⟩
    · rintro j d acc hd rfl
      obtain ⟨hj, rfl⟩ := rangeD_get hd
      have hci := cnt_len (n := i) (by omega)
      refine ⟨by rw [List.length_map, List.length_append]; unfold cRow; rw [List.length_map, List.length_range]; omega, [(6, .int (0 + (j : Nat)))], fun Y bY => (by obtain ⟨s', H', C, cl, fp, rfl⟩ := bY; exact a_n 6 sc_Table___init__.nd), by simp, ?_⟩
      rintro Y ⟨s', H', C, cl, fp, rfl⟩
      refine e_kk ?_
      refine ea_cons ?_
      refine e_v 6 ?_
      refine ea_cons ?_
      refine e_bin ?_
      refine e_v 5 ?_
      refine e_v 6 ?_
      refine w_sub ?_
      refine ea_nil ?_
      refine ⟨(_, _), rfl, ?_⟩
      show _ = List.map _ (cnt i ++ cRow (1 + (i : Nat)) (j + 1))
      rw [cRow_succ, ← List.append_assoc, List.map_append, List.map_append, List.map_append, Int.zero_add]
      rfl
    · rintro acc rfl
      rw [rangeD_length, cnt_succ, show (1 + (i : Int) + 1).toNat = i + 2 by omega]
  rintro acc rfl
  rw [rangeD_length, show ((lim : Int) + 1 - 1).toNat = lim by omega]
  show S _ _ _ [.ow (.at_ a (.obj C_Table ["limit", "looks"] [.int (lim : Nat), .tup (looks.map .int)])), .sh (.int (lim : Nat)), .sh ld, .sh (dA .str rl), .sh (.lst ((cnt lim).map fun c => Dt.key (kk c))), .no, .no, .no] _
  refine s_cons (s_fldO 0 rfl rfl (by first | exact .inl rfl | exact .inr (.inl rfl) | exact .inr (.inr rfl)) pc_Table.cl pc_Table.na_entries (by decide) (e_ofW (ew_dc (own := [("one", 7)]) hr.u0 rfl sc_Table___init__.nd (blkOk_by (N := N_Table___init__) (sc := defScope s_Table___init__) (by decide +kernel)) ?_)))
  refine i_lst ?_
  refine e_v 4 ?_
  refine ⟨_, rfl, by rw [List.length_map]; omega, ?_⟩
  refine ⟨fun i ks xs => ks = keysA (((cnt lim).take i).foldl (entStep rl) []) ∧ xs = (((cnt lim).take i).foldl (entStep rl) []).map fun e => Dt.str e.2, ⟨⟨rfl, rfl⟩, ?_⟩, ?_⟩
  · rintro i d ks xs hd ⟨rfl, rfl⟩ hks
    rw [List.getElem?_map] at hd
    obtain ⟨c, hc, rfl⟩ : ∃ c, (cnt lim)[i]? = some c ∧ Dt.key (kk c) = d := by
      cases z : (cnt lim)[i]? with
      | none => rw [z] at hd; cases hd
      | some c => rw [z] at hd; cases hd; exact ⟨c, rfl, rfl⟩
    have et : ((cnt lim).take (i + 1)).foldl (entStep rl) [] = entStep rl (((cnt lim).take i).foldl (entStep rl) []) c := by rw [take_get hc, List.foldl_append]; rfl
    rw [et]
    generalize ((cnt lim).take i).foldl (entStep rl) [] = m at *
    refine ⟨[(7, .key (kk c))], fun Y bY => (by obtain ⟨s', H', C, cl, fp, rfl⟩ := bY; exact a_n 7 sc_Table___init__.nd), by simp, ?_⟩
    rintro Y ⟨s', H', C, cl, fp, rfl⟩
    refine ts_one ?_
    refine t_dinA hr.u1 ?_
    refine e_v 7 ?_
    refine ⟨_, rfl, ?_⟩
    refine e_v 3 ?_
    refine ⟨_, _, _, rfl, ?_⟩
    cases hk : lk rl c with
    | none =>
      have hh : has rl c = false := by unfold has; rw [hk]; rfl
      rw [hh, if_neg (by decide)]
      unfold entStep
      rw [hk]
      exact ⟨rfl, rfl⟩
    | some x =>
      have hh : has rl c = true := by unfold has; rw [hk]; rfl
      rw [hh, if_pos rfl]
      rintro Z ⟨s', H', C, cl, fp, rfl⟩
      refine e_v 7 ?_
      refine ⟨_, rfl, ?_⟩
      rintro Z2 ⟨s', H', C, cl, fp, rfl⟩
      refine e_dgetA hr.u1 ?_
      refine e_v 3 ?_
      refine ⟨_, _, _, rfl, ?_⟩
      refine e_v 7 ?_
      refine ⟨_, _, rfl, hk, ?_⟩
      have e := put_dA Dt.str m c x
      unfold dA at e
      injection e with e1 e2
      unfold entStep
      rw [hk]
      exact ⟨e1, e2⟩
  rintro ks xs ⟨rfl, rfl⟩
  rw [List.length_map, List.take_length]
  show S _ _ _ [.ow (.at_ a (tb3 C_Table (mkT lim looks rl) [] [])), .sh (.int (lim : Nat)), .sh ld, .sh (dA .str rl), .sh (.lst ((cnt lim).map fun c => Dt.key (kk c))), .no, .no, .no] _
  have hsp : noE [] ∧ (mkT lim looks rl).lim ≤ 30 ∧ (0 : Int) ≤ 0 ∧ (0 : Int) ≤ 0 ∧ (0 : Int) + 0 ≤ 1000 := ⟨rfl, hl30, by decide, by decide, by decide⟩
  refine s_cons (s_fldO 0 rfl rfl (by first | exact .inl rfl | exact .inr (.inl rfl) | exact .inr (.inr rfl)) pc_Table.cl pc_Table.na_reached (by decide) (e_bor 0 rfl ?_))
  refine e_meth (dds := []) pc_Table.cl c_Table_spread hr (fun _ => .nil) ?_
  refine e_vA 0 ?_
  first | refine ⟨_, _, rfl, rfl, ?_⟩ | refine ⟨_, _, rfl, by assumption, ?_⟩
  refine ea_cons ?_
  refine e_int ?_
  refine ea_cons ?_
  refine e_int ?_
  refine ea_nil ?_
  refine ⟨rfl, ?_⟩
  refine u_Table_spread (T := mkT lim looks rl) hsp ?_
  refine ⟨fre_dA_int, ?_⟩
  rw [show (((mkT lim looks rl).lim : Int) - (0 + 0)).toNat = lim by show ((lim : Int) - (0 + 0)).toNat = lim; omega]
  show S _ _ _ [.ow (.at_ a (tb4 C_Table (mkT lim looks rl) [] [])), .sh (.int (lim : Nat)), .sh ld, .sh (dA .str rl), .sh (.lst ((cnt lim).map fun c => Dt.key (kk c))), .no, .no, .no] _
  refine s_one (s_fldO 0 rfl rfl (by first | exact .inl rfl | exact .inr (.inl rfl) | exact .inr (.inr rfl)) pc_Table.cl pc_Table.na_stops (by decide) (e_bor 0 rfl ?_))
  refine e_lc (own := [("one", 7)]) rfl sc_Table___init__.nd (blkOk_by (N := N_Table___init__) (sc := defScope s_Table___init__) (by decide +kernel)) ?_
  refine i_lst ?_
  refine e_v 4 ?_
  refine ⟨_, rfl, ?_⟩
  refine' ⟨?lcl38, _, lc_if (cnt lim) (fun c => Dt.key (kk c)) (fun c => stD (c, (mkT lim looks rl).word c)) (fun c => (mkT lim looks rl).isIn c) (fun c => [(7, Dt.key (kk c))]) ?lct38 ?lcm38 ?lcf38 ?lce38, ?lcc38⟩
  case lcl38 =>
    rw [List.length_map]; omega
  case lct38 =>
    rintro t ht Y ⟨s', H', C, cl, fp, rfl⟩
    exact (a_n 7 sc_Table___init__.nd)
  case lcm38 =>
    intro t p hp
    simp at hp
    simp [hp]
  case lcf38 =>
    rintro t ht Y ⟨s', H', C, cl, fp, rfl⟩
    refine t_cmp ?_
    refine e_v 7 ?_
    refine e_vA 0 ?_
    refine w_inO c_Table___contains__ hr ?_
    refine u_Table___contains__ rfl ?_
    refine ⟨_, rfl, ?_⟩
    refine ⟨_, rfl, ?_⟩
    rfl
  case lce38 =>
    rintro t ht hf Y ⟨s', H', C, cl, fp, rfl⟩
    have hw := isIn_word hf
    refine e_bin ?_
    refine e_asK ?_
    refine e_v 7 ?_
    refine ⟨_, rfl, ?_⟩
    refine e_tup ?_
    refine ea_cons ?_
    refine e_dgetA hr.u1 ?_
    refine e_fld ?_
    refine e_vA 0 ?_
    refine ⟨_, _, _, _, rfl, pc_Table.cl, pc_Table.na_entries, rfl, ?_⟩
    refine ⟨_, _, _, rfl, ?_⟩
    refine e_v 7 ?_
    refine ⟨_, _, rfl, by walk_at "sc", ?_⟩
    refine ea_nil ?_
    refine ⟨Nat.le_of_ble_eq_true rfl, ?_⟩
    refine w_catT (Nat.le_of_ble_eq_true rfl) ?_
    rfl
  rintro acc rfl
  rw [take_map_all]
  have es : List.map (fun c => stD (c, (mkT lim looks rl).word c)) ((cnt lim).filter fun c => (mkT lim looks rl).isIn c) = (mkT lim looks rl).stops.map stD := by unfold Tb.stops; rw [List.map_map]; rfl
  rw [es]
  refine ⟨fre_stops 2 _, ?_⟩
  exact ⟨_, _, rfl, hq⟩

theorem badW_odd {lim : Nat} {G : Al Str} {x : Str} (h : x ∈ badW lim G) : x ∈ oddW := by
  unfold badW at h
  obtain ⟨c, _, hc⟩ := List.mem_filterMap.mp h
  cases hk : lk G c with
  | none => rw [hk] at hc; cases hc
  | some y =>
    rw [hk] at hc
    dsimp only at hc
    by_cases ho : y ∈ oddW
    · rw [if_pos ho] at hc; cases hc; exact ho
    · rw [if_neg ho] at hc; cases hc
theorem eqX_nil (x : Str) (l : List Str) : eqD (.lst ((x :: l).map .str)) (.lst []) = false := by
  show (toP (.lst (Dt.str x :: l.map .str))).eqv (toP (.lst [])) = false
  simp [toP, toPs, PyData.eqv, PyData.eqvAll]
theorem lim_ofX {lim : Int} {looks : List Int} {L : List (Int × Int)} (h : faultX lim looks L = none) : ∃ n : Nat, lim = (n : Int) ∧ n ≤ 30 := by
  unfold faultX at h
  by_cases z : lim < 1 ∨ 30 < lim
  · rw [if_pos z] at h; cases h
  · exact ⟨lim.toNat, by omega, by omega⟩
abbrev N__law_asked : List Str := ["_law_limit", "_law_looks", "_law_passed", "_law_rule", "_law_fault_here", "_law_given", "_law_counts", "_law_word_here", "_law_kept", "e", "_law_bad"]
theorem sc__law_asked : FnScope N__law_asked ["_law_limit", "_law_looks", "_law_passed", "_law_rule"] (defScope s__law_asked) := ⟨rfl, rfl, rfl, by decide +kernel, rfl, by decide +kernel, by decide +kernel⟩
theorem ok__law_asked {f : Addr} {fd : FuncData} {k : Nat} {dvs : List V} {kws : List (Str × V)} {C_InvalidTable : Addr} {C_InvalidWord : Addr} {C_StopError : Addr} {C_Table : Addr} (F : FD K "_law_asked" "_law_asked" s__law_asked dvs kws f fd) (m_ValueError : mg "ValueError" = none) (m_isinstance : mg "isinstance" = none) (m_list : mg "list" = none) (c__law_fault : Fn P w K mg base k "_law_fault" ["_law_limit", "_law_looks", "_law_rule"] [] (spD K 3 ph__law_faultX)) (c__law_bad_words : Fn P w K mg base k "_law_bad_words" ["_law_limit", "_law_rule"] [] (spD K 2 ph__law_bad_wordsX)) (g_InvalidTable : mg "InvalidTable" = some (.ref C_InvalidTable)) (g_InvalidWord : mg "InvalidWord" = some (.ref C_InvalidWord)) (g_StopError : mg "StopError" = some (.ref C_StopError)) (g_Table : mg "Table" = some (.ref C_Table)) (c__law_bad_words_h : FnHt P w K mg base k "_law_bad_words" ["_law_limit", "_law_rule"] (spD K 2 ph__law_bad_wordsX)) (x_InvalidTable_StopError : PySem.W.exmOne K (.ref C_InvalidTable) (.ref C_StopError) = some true) (x_InvalidWord_StopError : PySem.W.exmOne K (.ref C_InvalidWord) (.ref C_StopError) = some true) (e_InvalidTable : ExC K C_InvalidTable) (e_InvalidWord : ExC K C_InvalidWord) (n_InvalidTable_place : PySem.W.findIn K (.ref C_InvalidTable) "place" = some none) (n_InvalidWord_word : PySem.W.findIn K (.ref C_InvalidWord) "word" = some none) (i_InvalidTable_InvalidTable : PySem.W.kitOne K (.ref C_InvalidTable) (.ref C_InvalidTable) = some true) (i_InvalidWord_InvalidWord : PySem.W.kitOne K (.ref C_InvalidWord) (.ref C_InvalidWord) = some true) (i_InvalidTable_ValueError : PySem.W.kitOne K (.ref C_InvalidTable) (.type "ValueError") = some true) (i_InvalidWord_ValueError : PySem.W.kitOne K (.ref C_InvalidWord) (.type "ValueError") = some true) (c_Table : FnC P w K mg base k "Table" 3 (ph_Table___init__X C_Table C_InvalidTable C_InvalidWord)) (pc_Table : TableC K C_Table) : FnOk P w K mg base (L2N.CX P w) (k + 1) f fd ["_law_limit", "_law_looks", "_law_passed", "_law_rule"] (spD K 4 ph__law_askedX) := by
  refine fn_ok F sc__law_asked rfl fun X cdv A outer s H E ds q xd hX hr hph hl Fr wf xok => ?_
  subst hX
  obtain ⟨lim, looks, R, m, ld, rfl, ⟨⟨hll, hrl, h300, hwk⟩, hld⟩, hq⟩ := hph
  have kf : looks.length ≤ 300 ∧ R.length ≤ 300 := ⟨by omega, by omega⟩
  show S _ _ _ [_, _, _, _, _, _, _, _, _, _, _] _
  refine s_cons (s_a 4 sc__law_asked.nd ?_)
  refine e_call (dds := []) c__law_fault hr (by rfl) (fun _ => .nil) ?_
  refine ea_cons ?_
  refine e_v 0 ?_
  refine ea_cons ?_
  refine e_v 1 ?_
  refine ea_cons ?_
  refine e_v 3 ?_
  refine ea_nil ?_
  refine ⟨rfl, ?_⟩
  refine u__law_faultX (by walk_at "sc") ?_
  show S _ _ _ [_, _, _, _, _, _, _, _, _, _, _] _
  refine s_cons (s_aO 5 sc__law_asked.nd (ew_dnew ?_))
  show S _ _ _ [_, _, _, _, _, _, _, _, _, _, _] _
  refine s_cons (s_for (passes_of rfl) rfl ?_)
  refine i_lst ?_
  refine e_v 3 ?_
  refine ⟨_, rfl, ?_⟩
  refine ⟨fun i G => ∃ g6 g7 : Sl, G = [.sh (.int lim), .sh (.lst (looks.map .int)), .sh ld, .sh (.lst (R.map enR)), .sh (fltD (faultX lim looks (R.map (·.1)))), .ow (dA .str (dcR (R.take i))), g6, g7, .no, .no, .no], ⟨_, _, rfl⟩, ?_, ?_⟩
  · rintro i d G hd ⟨g6, g7, rfl⟩
    obtain ⟨e, he, rfl⟩ : ∃ e, R[i]? = some e ∧ d = enR e := by
      rw [List.getElem?_map] at hd
      cases z : R[i]? with
      | none => rw [z] at hd; cases hd
      | some e => rw [z] at hd; exact ⟨e, rfl, (Option.some.inj hd).symm⟩
    have hl9 : (dcR (R.take i)).length < 100000 := by
      have := dcR_len (R.take i)
      have := List.length_take_le' i R
      omega
    refine ⟨_, (a_tup rfl (as_cons (a_n 6 sc__law_asked.nd) (as_cons (a_n 7 sc__law_asked.nd) as_nil))), ?_⟩
    show S _ _ _ [_, _, _, _, _, _, _, _, _, _, _] _
    refine s_one (s_dputA 5 hr.u1 rfl rfl (by first | exact .inl rfl | exact .inr (.inl rfl) | exact .inr (.inr rfl)) (by walk_at "sc") ?_)
    refine e_v 7 ?_
    refine ⟨_, rfl, ?_⟩
    refine e_v 6 ?_
    refine ⟨_, rfl, ?_⟩
    rw [← dcR_take he]
    exact ⟨_, _, rfl⟩
  rintro G ⟨g6, g7, rfl⟩
  rw [List.length_map, List.take_length]
  refine s_frz1 5 rfl ?_
  have okw : ∀ e ∈ dcR R, PyData.strOk e.2 = true := dcR_mem (p := fun y => PyData.strOk y = true) fun e he => (hwk e he).ok
  have okI := itA_ok okw
  have okl : okD (.lst (looks.map .int)) = true := ok_ints _
  have ekeys : faultX lim looks ((dcR R).map (·.1)) = faultX lim looks (R.map (·.1)) := faultX_congr fun c => dcR_keys R c
  have hgl : (dcR R).length ≤ 300 := Nat.le_trans (dcR_len R) kf.2
  have gv : GvX looks (dcR R) := ⟨kf.1, hgl, dcR_nd R, dcR_mem hwk⟩
  show S _ _ _ [.sh (.int lim), .sh (.lst (looks.map .int)), .sh ld, .sh (.lst (R.map enR)), .sh (fltD (faultX lim looks (R.map (·.1)))), .sh (dA .str (dcR R)), g6, g7, .no, .no, .no] _
  refine s_cons (s_a 8 sc__law_asked.nd ?_)
  refine e_ofW (ew_of (en_listItemsA rfl (by rfl) m_list ?_))
  refine e_v 5 ?_
  refine ⟨_, _, _, rfl, ?_⟩
  show S _ _ _ [_, _, _, _, _, _, _, _, _, _, _] _
  show S _ _ _ [.sh (.int lim), .sh (.lst (looks.map .int)), .sh ld, .sh (.lst (R.map enR)), .sh (fltD (faultX lim looks (R.map (·.1)))), .sh (dA .str (dcR R)), g6, g7, .sh (.lst (itA .str (dcR R))), .no, .no] _
  refine s_cut (fun G => G = [.sh (.int lim), .sh (.lst (looks.map .int)), .sh ld, .sh (.lst (R.map enR)), .sh (fltD (faultX lim looks (R.map (·.1)))), .sh (dA .str (dcR R)), g6, g7, .sh (.lst (itA .str (dcR R))), .no, .no] ∧ faultX lim looks (R.map (·.1)) = none ∧ badW lim.toNat (dcR R) = []) (s_try (i := 9) (xq := fun G C ns ds => G = [.sh (.int lim), .sh (.lst (looks.map .int)), .sh ld, .sh (.lst (R.map enR)), .sh (fltD (faultX lim looks (R.map (·.1)))), .sh (dA .str (dcR R)), g6, g7, .sh (.lst (itA .str (dcR R))), .no, .no] ∧ ((C = C_InvalidTable ∧ ns = [("place" : Str)] ∧ ∃ z : Str, ds = [.str z] ∧ faultX lim looks (R.map (·.1)) = some z) ∨ (C = C_InvalidWord ∧ ns = [("word" : Str)] ∧ ∃ (z : Str) (l : List Str), ds = [.str z] ∧ faultX lim looks (R.map (·.1)) = none ∧ badW lim.toNat (dcR R) = z :: l))) sc__law_asked.nd rfl rfl ⟨by rfl, by decide, .inl g_StopError⟩ (fun G C ns ds hx => by rcases hx with ⟨_, ⟨rfl, _⟩ | ⟨rfl, _⟩⟩ <;> first | exact x_InvalidTable_StopError | exact x_InvalidWord_StopError) (fun W pn xe tk pso => ?_) ?_) ?_
  · refine s_one (s_exprX (ex_callC tk c_Table hr (by rfl) ?_))
    refine ea_cons ?_
    refine e_v 0 ?_
    refine ea_cons ?_
    refine e_v 2 ?_
    refine ea_cons ?_
    refine e_v 5 ?_
    refine ea_nil ?_
    refine ⟨rfl, lim, looks, dcR R, ld, rfl, ⟨gv, hld⟩, fun hf hb => ?_, fun f hf => ⟨rfl, .inl ⟨rfl, rfl, f, rfl, by rw [← ekeys]; exact hf⟩⟩, fun y l hf hb => ⟨rfl, .inr ⟨rfl, rfl, y, l, rfl, by rw [← ekeys]; exact hf, hb⟩⟩⟩
    exact ⟨rfl, by rw [← ekeys]; exact hf, hb⟩
  · rintro G' C ns ds a' oe d' pn ⟨rfl, hx⟩ hz hf hd'
    obtain ⟨vs, hvs⟩ := hf
    have hrx : RoomHt k ((cxOf (L2N.CX P w) P w K mg base N__law_asked "_law_asked" (defScope s__law_asked) f cdv A outer s H E).suite a' ((a', oe) :: pn)) := ⟨⟨hr.dp, hr.un⟩, ⟨(a', oe), ⟨rfl, vs, hvs, hz.2.2 vs hvs⟩, List.mem_cons_self⟩⟩
    have hf : ∃ vs, oe.data = .fields vs := ⟨vs, hvs⟩
    rcases hx with ⟨rfl, rfl, z, rfl, hx⟩ | ⟨rfl, rfl, z, l, rfl, hx, hb⟩
    · have hod : d' ≠ none := fun z => by cases (hd' z).1
      show S _ _ _ [_, _, _, _, _, _, _, _, _, _, _] _
      rw [hx]
      refine s_cons (s_if ?_)
      refine TW.t ?_
      refine' tw_orD ?ha39 (fun hb => ?hb39) ?hc39
      case ha39 =>
        refine t_not ?_
        refine t_val ?_
        refine e_callB (id := "isinstance") (by rfl) m_isinstance b_isinstance ?_
        refine ea_cons ?_
        refine e_v 9 ?_
        refine ea_cons ?_
        refine e_ty (by rfl) m_ValueError b_ValueError ?_
        refine ea_nil ?_
        refine wc_isE e_InvalidTable.ec hz hf (.inl ⟨_, rfl, rfl⟩) i_InvalidTable_ValueError ?_
        refine ⟨_, rfl, ?_⟩
        exact rfl
      case hb39 =>
        refine' tw_orD ?ha40 (fun hb => ?hb40) ?hc40
        case ha40 =>
          refine t_cmp ?_
          refine e_callTy (id := "list") (by rfl) m_list b_list ?_
          refine ea_cons ?_
          refine e_v 2 ?_
          refine ea_nil ?_
          refine wc_list_ld hld ?_
          refine e_v 1 ?_
          refine w_neD hr.units okl okl ?_
          refine ⟨_, rfl, ?_⟩
          exact rfl
        case hb40 =>
          refine tw_or1 ?_
          refine t_cmp ?_
          refine e_ofW (ew_of (en_listItemsAH hrx.hot (by rfl) m_list ?_))
          refine e_v 5 ?_
          refine ⟨_, _, _, rfl, ?_⟩
          refine e_v 8 ?_
          refine w_neD hr.units okI okI ?_
          refine ⟨_, rfl, ?_⟩
          exact rfl
        exact rfl
      rw [eqD_refl okl, eqD_refl okI]
      refine ite_f rfl ?_
      refine s_nil ?_
      show S _ _ _ [_, _, _, _, .sh (.str z), _, _, _, _, _, _] _
      refine s_cons (s_if ?_)
      refine t_cmp ?_
      refine e_v 4 ?_
      refine e_none ?_
      first | refine w_isNN ?_ | refine w_isNB ?_
      refine ⟨_, rfl, ?_⟩
      refine ite_t rfl ?_
      refine s_one (s_ret ?_)
      refine' e_andD ?ha41 (fun hb => ?hb41) ?hc41
      case ha41 =>
        refine e_callB (id := "isinstance") (by rfl) m_isinstance b_isinstance ?_
        refine ea_cons ?_
        refine e_v 9 ?_
        refine ea_cons ?_
        refine e_cls (by rfl) g_InvalidTable ?_
        refine ea_nil ?_
        refine wc_isE e_InvalidTable.ec hz hf (.inr ⟨_, rfl, rfl⟩) i_InvalidTable_InvalidTable ?_
        exact rfl
      case hb41 =>
        refine e_one ?_
        refine e_cmp ?_
        refine e_xf e_InvalidTable.xf n_InvalidTable_place hz hf hod (e_v 9 rfl) ?_
        refine e_v 4 ?_
        first | refine w_eqI ?_ | refine w_eqT ?_ | refine w_eqB ?_ | refine w_eqD hr.units (by walk_at "ok") (by walk_at "ok") ?_
        exact rfl
      simp
      exact hq
    · have hod : d' ≠ none := fun z => by cases (hd' z).1
      obtain ⟨n, rfl, hn⟩ := lim_ofX hx
      rw [Int.toNat_natCast] at hb
      have okB : okD (.lst ((z :: l).map Dt.str)) = true := ok_strs fun x hx => odd_ok x (badW_odd (by rw [hb]; exact hx))
      have kb : n ≤ 30 ∧ R.length ≤ 300 ∧ ∀ e ∈ R, WoK e.2 := ⟨hn, kf.2, hwk⟩
      show S _ _ _ [_, _, _, _, _, _, _, _, _, _, _] _
      rw [hx]
      refine s_cons (s_if ?_)
      refine TW.t ?_
      refine' tw_orD ?ha42 (fun hb => ?hb42) ?hc42
      case ha42 =>
        refine t_not ?_
        refine t_val ?_
        refine e_callB (id := "isinstance") (by rfl) m_isinstance b_isinstance ?_
        refine ea_cons ?_
        refine e_v 9 ?_
        refine ea_cons ?_
        refine e_ty (by rfl) m_ValueError b_ValueError ?_
        refine ea_nil ?_
        refine wc_isE e_InvalidWord.ec hz hf (.inl ⟨_, rfl, rfl⟩) i_InvalidWord_ValueError ?_
        refine ⟨_, rfl, ?_⟩
        exact rfl
      case hb42 =>
        refine' tw_orD ?ha43 (fun hb => ?hb43) ?hc43
        case ha43 =>
          refine t_cmp ?_
          refine e_callTy (id := "list") (by rfl) m_list b_list ?_
          refine ea_cons ?_
          refine e_v 2 ?_
          refine ea_nil ?_
          refine wc_list_ld hld ?_
          refine e_v 1 ?_
          refine w_neD hr.units okl okl ?_
          refine ⟨_, rfl, ?_⟩
          exact rfl
        case hb43 =>
          refine tw_or1 ?_
          refine t_cmp ?_
          refine e_ofW (ew_of (en_listItemsAH hrx.hot (by rfl) m_list ?_))
          refine e_v 5 ?_
          refine ⟨_, _, _, rfl, ?_⟩
          refine e_v 8 ?_
          refine w_neD hr.units okI okI ?_
          refine ⟨_, rfl, ?_⟩
          exact rfl
        exact rfl
      rw [eqD_refl okl, eqD_refl okI]
      refine ite_f rfl ?_
      refine s_nil ?_
      show S _ _ _ [_, _, _, _, .sh .non, _, _, _, _, _, _] _
      refine s_cons (s_if ?_)
      refine t_cmp ?_
      refine e_v 4 ?_
      refine e_none ?_
      first | refine w_isNN ?_ | refine w_isNB ?_
      refine ⟨_, rfl, ?_⟩
      refine ite_f rfl ?_
      refine s_nil ?_
      refine s_cons (s_a 10 sc__law_asked.nd ?_)
      refine e_callHt c__law_bad_words_h hrx (by rfl) ?_
      refine ea_cons ?_
      refine e_v 0 ?_
      refine ea_cons ?_
      refine e_v 3 ?_
      refine ea_nil ?_
      refine ⟨rfl, ?_⟩
      refine u__law_bad_wordsX kb ?_
      show S _ _ _ [_, _, _, _, _, _, _, _, _, _, _] _
      rw [hb]
      refine s_one (s_ret ?_)
      refine' e_andD ?ha44 (fun hb => ?hb44) ?hc44
      case ha44 =>
        refine e_cmp ?_
        refine e_v 10 ?_
        refine e_lst ?_
        refine ea_nil ?_
        refine ⟨Nat.le_of_ble_eq_true rfl, ?_⟩
        refine w_neD hr.units okB rfl ?_
        exact rfl
      case hb44 =>
        refine' e_andD ?ha45 (fun hb => ?hb45) ?hc45
        case ha45 =>
          refine e_callB (id := "isinstance") (by rfl) m_isinstance b_isinstance ?_
          refine ea_cons ?_
          refine e_v 9 ?_
          refine ea_cons ?_
          refine e_cls (by rfl) g_InvalidWord ?_
          refine ea_nil ?_
          refine wc_isE e_InvalidWord.ec hz hf (.inr ⟨_, rfl, rfl⟩) i_InvalidWord_InvalidWord ?_
          exact rfl
        case hb45 =>
          refine e_one ?_
          refine e_cmp ?_
          refine e_xf e_InvalidWord.xf n_InvalidWord_word hz hf hod (e_v 9 rfl) ?_
          refine e_ix ?_
          refine e_v 10 ?_
          refine e_int ?_
          refine wi_lst (atI_nat (j := 0) rfl) ?_
          first | refine w_eqI ?_ | refine w_eqT ?_ | refine w_eqB ?_ | refine w_eqD hr.units (by walk_at "ok") (by walk_at "ok") ?_
          exact rfl
        exact rfl
      rw [eqX_nil]
      simp
      exact hq
  rintro G ⟨rfl, hfa, hb⟩
  obtain ⟨n, rfl, hn⟩ := lim_ofX hfa
  rw [Int.toNat_natCast] at hb
  have kb : n ≤ 30 ∧ R.length ≤ 300 ∧ ∀ e ∈ R, WoK e.2 := ⟨hn, kf.2, hwk⟩
  have okN0 : okD (.lst (([] : List Str).map Dt.str)) = true := rfl
  have hbw := hb
  rw [hfa]
  refine s_cons (s_if ?_)
  refine TW.t ?_
  refine' tw_orD ?ha46 (fun hb => ?hb46) ?hc46
  case ha46 =>
    refine t_cmp ?_
    refine e_callTy (id := "list") (by rfl) m_list b_list ?_
    refine ea_cons ?_
    refine e_v 2 ?_
    refine ea_nil ?_
    refine wc_list_ld hld ?_
    refine e_v 1 ?_
    refine w_neD hr.units okl okl ?_
    refine ⟨_, rfl, ?_⟩
    exact rfl
  case hb46 =>
    refine tw_or1 ?_
    refine t_cmp ?_
    refine e_ofW (ew_of (en_listItemsA rfl (by rfl) m_list ?_))
    refine e_v 5 ?_
    refine ⟨_, _, _, rfl, ?_⟩
    refine e_v 8 ?_
    refine w_neD hr.units okI okI ?_
    refine ⟨_, rfl, ?_⟩
    exact rfl
  rw [eqD_refl okl, eqD_refl okI]
  refine ite_f rfl ?_
  refine s_nil ?_
  refine s_one (s_ret ?_)
  refine' e_andD ?ha47 (fun hb => ?hb47) ?hc47
  case ha47 =>
    refine e_cmp ?_
    refine e_v 4 ?_
    refine e_none ?_
    first | refine w_isN ?_ | refine w_isB ?_
    exact rfl
  case hb47 =>
    refine e_one ?_
    refine e_cmp ?_
    refine e_call (dds := []) c__law_bad_words hr (by rfl) (fun _ => .nil) ?_
    refine ea_cons ?_
    refine e_v 0 ?_
    refine ea_cons ?_
    refine e_v 3 ?_
    refine ea_nil ?_
    refine ⟨rfl, ?_⟩
    refine u__law_bad_wordsX kb ?_
    refine e_lst ?_
    refine ea_nil ?_
    refine ⟨Nat.le_of_ble_eq_true rfl, ?_⟩
    refine w_eqD hr.units (by rw [hbw]; exact okN0) rfl ?_
    exact rfl
  rw [hbw]
  exact hq

abbrev N__law_agrees : List Str := ["_law_limit", "_law_looks", "_law_rule"]
theorem sc__law_agrees : FnScope N__law_agrees ["_law_limit", "_law_looks", "_law_rule"] (defScope s__law_agrees) := ⟨rfl, rfl, rfl, by decide +kernel, rfl, by decide +kernel, by decide +kernel⟩
theorem ok__law_agrees {f : Addr} {fd : FuncData} {k : Nat} {dvs : List V} {kws : List (Str × V)} (F : FD K "_law_agrees" "_law_agrees" s__law_agrees dvs kws f fd) (m_list : mg "list" = none) (m_tuple : mg "tuple" = none) (c__law_asked : Fn P w K mg base k "_law_asked" ["_law_limit", "_law_looks", "_law_passed", "_law_rule"] [] (spD K 4 ph__law_askedX)) : FnOk P w K mg base (L2N.CX P w) (k + 1) f fd ["_law_limit", "_law_looks", "_law_rule"] (spD K 3 ph__law_agreesF) := by
  refine fn_ok F sc__law_agrees rfl fun X cdv A outer s H E ds q xd hX hr hph hl Fr wf xok => ?_
  subst hX
  obtain ⟨lim, looks, R, n, rfl, st, hq⟩ := hph
  have k1 : StF n looks R ∧ LorT (.lst (looks.map .int)) (looks.map .int) := ⟨st, .inl rfl⟩
  have k2 : StF n looks R ∧ LorT (.tup (looks.map .int)) (looks.map .int) := ⟨st, .inr rfl⟩
  show S _ _ _ [_, _, _] _
  refine s_one (s_ret ?_)
  refine' e_andD ?ha48 (fun hb => ?hb48) ?hc48
  case ha48 =>
    refine e_call (dds := []) c__law_asked hr (by rfl) (fun _ => .nil) ?_
    refine ea_cons ?_
    refine e_v 0 ?_
    refine ea_cons ?_
    refine e_v 1 ?_
    refine ea_cons ?_
    refine e_callTy (id := "list") (by rfl) m_list b_list ?_
    refine ea_cons ?_
    refine e_v 1 ?_
    refine ea_nil ?_
    first | refine wc_list_lst ?_ | refine wc_list_tup ?_
    refine ea_cons ?_
    refine e_v 2 ?_
    refine ea_nil ?_
    refine ⟨rfl, ?_⟩
    refine u__law_askedX k1 ?_
    exact rfl
  case hb48 =>
    refine e_one ?_
    refine e_call (dds := []) c__law_asked hr (by rfl) (fun _ => .nil) ?_
    refine ea_cons ?_
    refine e_v 0 ?_
    refine ea_cons ?_
    refine e_v 1 ?_
    refine ea_cons ?_
    refine e_callTy (id := "tuple") (by rfl) m_tuple b_tuple ?_
    refine ea_cons ?_
    refine e_v 1 ?_
    refine ea_nil ?_
    first | refine wc_tuple_lst ?_ | refine wc_tuple_tup ?_
    refine ea_cons ?_
    refine e_v 2 ?_
    refine ea_nil ?_
    refine ⟨rfl, ?_⟩
    refine u__law_askedX k2 ?_
    exact rfl
  exact hq

theorem keys_atX {α : Type} {m : Al α} {i : Nat} {q : List Key} (h : (keysA m)[i]? = some q) : ∃ e, m[i]? = some e ∧ q = kk e.1 := by
  unfold keysA at h
  rw [List.getElem?_map] at h
  obtain ⟨e, h1, h2⟩ := Option.map_eq_some_iff.mp h
  exact ⟨e, h1, h2.symm⟩
def wdX (i : Nat) : Str := if i % 2 = 0 then Str.ofString "no word" else Str.ofString "below 1/2"
theorem wdX_ok (i : Nat) : Wd (wdX i) := by
  unfold wdX
  split
  · exact wd_no
  · rw [show Str.ofString "below 1/2" = SX.S (wordL kBe 1 2) by decide +kernel]
    exact wd_k (.inr rfl) (by decide) (by decide) (by decide) (by decide)
theorem wdX_at (i : Nat) : atI [Dt.str (Str.ofString "no word"), .str (Str.ofString "below 1/2")] ((i : Int) % 2) = some (.str (wdX i)) := by
  unfold wdX
  rcases Nat.mod_two_eq_zero_or_one i with h | h
  · rw [if_pos h, show (i : Int) % 2 = ((0 : Nat) : Int) by omega]; rfl
  · rw [if_neg (by omega), show (i : Int) % 2 = ((1 : Nat) : Int) by omega]; rfl
def rowX (n : Nat) : Al Str := (List.range (n + 1)).map fun i : Nat => (((i : Int), (n : Int) - (i : Int)), wdX i)
theorem rl_lenX {lim : Nat} {looks : List Int} {rl : Al Str} (v : Vt lim looks rl) (h : lim ≤ 5) : rl.length ≤ 20 ∧ looks.length ≤ 20 := by
  obtain ⟨l', e⟩ := v.last
  have hle : ∀ z ∈ looks, z ≤ lim := fun z hz => by
    have g2 := v.asc
    rw [e] at hz g2
    rcases List.mem_append.mp hz with h | h
    · have := (List.pairwise_append.mp g2).2.2 z h lim (by simp)
      omega
    · rw [List.mem_singleton.mp h]; exact Int.le_refl _
  have := asc_lenU v.asc v.one hle
  refine ⟨?_, by omega⟩
  obtain ⟨ks, hks, ek⟩ := v.ord
  have e1 : rl.length = ks.length := by rw [← List.length_map (f := fun e : (Int × Int) × Str => e.1), ek, List.length_map]
  have e2 := hks.length_le
  have key : ∀ n ≤ 5, (cnN n).length ≤ 20 := by decide +kernel
  have := key lim h
  omega
abbrev N_law : List Str := ["_law_script", "_law_box_here", "_law_limit", "_law_looks", "_law_entries", "_law_rule", "_law_counts", "_law_wins"]
theorem sc_law : FnScope N_law ["_law_script"] (defScope s_law) := ⟨rfl, rfl, rfl, by decide +kernel, rfl, by decide +kernel, by decide +kernel⟩
theorem ok_law {f : Addr} {fd : FuncData} {k : Nat} (F : FD K "law" "law" s_law [] [] f fd) (m_int : mg "int" = none) (m_range : mg "range" = none) (c__law_box : Fn P w K mg base k "_law_box" ["_law_script"] [] (spBox K)) (c__law_take : Fn P w K mg base k "_law_take" ["_law_box_here", "_law_size"] [] (spB K 2 ph_take)) (c__law_parts : Fn P w K mg base k "_law_parts" ["_law_box_here", "_law_most"] [] (spB K 2 ph__law_parts)) (c__law_spoil : Fn P w K mg base k "_law_spoil" ["_law_box_here", "_law_limit", "_law_looks", "_law_rule"] [] (spB K 4 ph__law_spoilX)) (c__law_agrees : Fn P w K mg base k "_law_agrees" ["_law_limit", "_law_looks", "_law_rule"] [] (spD K 3 ph__law_agreesF)) : FnOk P w K mg base (L2N.CX P w) (k + 1) f fd ["_law_script"] (spLaw K) := by
  refine law_ok F sc_law c__law_box (by rfl) rfl rfl (by decide) (by first | exact .inl rfl | exact .inr rfl) (by first | exact .inl rfl | exact .inr (.inl rfl)) (by rfl) (by decide) (by decide) (fun _ _ => rfl) (fun _ => rfl) fun X cdv A outer s H E b c n ns hX hr => ?_
  subst hX
  show S _ _ _ [_, _, _, _, _, _, _, _] _
  have h5 : (0 : Int) < 5 ∧ (5 : Int) ≤ 20 := by decide
  have h2t : (0 : Int) < 2 ∧ (2 : Int).natAbs.log2 < 9000 := ⟨by decide, by decide +kernel⟩
  have h8t : (0 : Int) < 8 ∧ (8 : Int).natAbs.log2 < 9000 := ⟨by decide, by decide +kernel⟩
  refine s_cons (s_unpack ?_)
  refine e_callX c__law_parts hr (by rfl) ?_
  refine ea_cons ?_
  refine e_v 1 ?_
  refine ea_cons ?_
  refine e_int ?_
  refine ea_nil ?_
  refine ⟨_, rfl, rfl, ?_⟩
  refine u__law_parts (by walk_at "sc") ?_
  intro lim1 lks1 rl1 vt1 ll1 sm1
  refine ⟨_, (a_tup rfl (as_cons (a_n 2 sc_law.nd) (as_cons (a_n 3 sc_law.nd) (as_cons (a_n 4 sc_law.nd) as_nil)))), ?_⟩
  show S _ _ _ [_, _, _, _, _, _, _, _] _
  obtain ⟨hr20, hl20⟩ := rl_lenX vt1 (by omega)
  have nd1 : (rl1.map (·.1)).Nodup := by
    obtain ⟨ks, hks, ek⟩ := vt1.ord
    rw [ek]
    exact Nd_cast (hks.nodup cnN_nd)
  refine s_cons (s_lcKN 5 4 (own := [("_law_counts", 6)]) rfl sc_law.nd rfl rfl (sw_true rfl rfl rfl (by decide +kernel)) (blkOk_by (N := N_law) (sc := defScope s_law) (by decide +kernel)) rfl (by rw [keysA_len]; omega) ⟨fun i acc => acc = (rl1.take i).map enR, ⟨rfl, ?_⟩, ?_⟩)
  · rintro i q2 acc hq2 rfl hla
    obtain ⟨e, he, rfl⟩ := keys_atX hq2
    have hlk : lk rl1 e.1 = some e.2 := (lk_nd_iff nd1).mpr (List.mem_of_getElem? he)
    refine ⟨[(6, .key (kk e.1))], fun Y bY => (by obtain ⟨s', H', C, cl, fp, rfl⟩ := bY; exact a_n 6 sc_law.nd), by simp, ?_⟩
    rintro Y ⟨s', H', C, cl, fp, rfl⟩
    refine ts_nil ?_
    rw [if_pos rfl]
    rintro Z ⟨s'', H'', C2, cl2, fp2, rfl⟩
    refine e_tup ?_
    refine ea_cons ?_
    refine e_v 6 ?_
    refine ea_cons ?_
    refine e_dgetA hr.u1 ?_
    refine e_v 4 ?_
    refine ⟨_, _, _, rfl, ?_⟩
    refine e_v 6 ?_
    refine ⟨_, _, rfl, by walk_at "sc", ?_⟩
    refine ea_nil ?_
    refine ⟨Nat.le_of_ble_eq_true rfl, ?_⟩
    rw [take_get he, List.map_append]
    rfl
  rintro acc rfl
  rw [keysA_len, List.take_length]
  have st1 : StF 32 lks1 rl1 := ⟨by omega, by omega, by decide, fun e he => .inl (vt1.words e he)⟩
  show S _ _ _ [_, _, _, _, _, _, _, _] _
  refine s_cut (fun G => ∃ (lim : Int) (looks : List Int) (R : Al Str) (g6 g7 : Sl), G = [.sh (.frl (ns.map .int)), .sh (.adr b), .sh (.int lim), .sh (.lst (looks.map .int)), .sh (dA .str rl1), .sh (.lst (R.map enR)), g6, g7] ∧ StF 32 looks R) (s_if ?_) ?_
  · refine t_cmp ?_
    refine e_callX c__law_take hr (by rfl) ?_
    refine ea_cons ?_
    refine e_v 1 ?_
    refine ea_cons ?_
    refine e_int ?_
    refine ea_nil ?_
    refine ⟨_, rfl, rfl, ?_⟩
    refine u_take (by walk_at "sc") ?_
    intro v2 va2 vb2
    refine e_int ?_
    first | refine w_eqI ?_ | refine w_eqT ?_ | refine w_eqB ?_ | refine w_eqD hr.units (by walk_at "ok") (by walk_at "ok") ?_
    refine ⟨_, rfl, ?_⟩
    refine ite_b (fun h => ?_) (fun h => ?_)
    · refine s_cons (s_a 2 sc_law.nd ?_)
      refine e_bin ?_
      refine e_int ?_
      refine e_callX c__law_take hr (by rfl) ?_
      refine ea_cons ?_
      refine e_v 1 ?_
      refine ea_cons ?_
      refine e_int ?_
      refine ea_nil ?_
      refine ⟨_, rfl, rfl, ?_⟩
      refine u_take (by walk_at "sc") ?_
      intro v3 va3 vb3
      first | refine w_add ?_ | refine w_catT (by walk_at "sc") ?_ | refine w_addS (by walk_at "sc") ?_ | refine w_catL (by walk_at "sc") ?_
      show S _ _ _ [_, _, _, _, _, _, _, _] _
      obtain ⟨n, en, hn⟩ : ∃ n : Nat, 30 + v3 = (n : Int) ∧ n ≤ 31 := ⟨(30 + v3).toNat, by omega, by omega⟩
      rw [en]
      refine s_cons (s_a 3 sc_law.nd ?_)
      refine e_lst ?_
      refine ea_cons ?_
      refine e_v 2 ?_
      refine ea_nil ?_
      refine ⟨Nat.le_of_ble_eq_true rfl, ?_⟩
      show S _ _ _ [_, _, _, _, _, _, _, _] _
      refine s_one (s_lc 5 (own := [("_law_wins", 7)]) rfl sc_law.nd rfl rfl (sw_true rfl rfl rfl (by decide +kernel)) (blkOk_by (N := N_law) (sc := defScope s_law) (by decide +kernel)) ?_)
      refine i_range1 (by rfl) m_range ?_
      refine ea_cons ?_
      refine e_bin ?_
      refine e_v 2 ?_
      refine e_int ?_
      first | refine w_add ?_ | refine w_catT (by walk_at "sc") ?_ | refine w_addS (by walk_at "sc") ?_ | refine w_catL (by walk_at "sc") ?_
      refine ea_nil ?_
      refine ⟨_, rfl, by walk_at "sc", by walk_at "sc", ?_⟩
      rw [show ((n : Int) + 1).toNat = n + 1 by omega]
      unfold rangeD
      refine' ⟨?lcl49, _, lc_of (List.range (n + 1)) (fun i => Dt.int (0 + (i : Nat))) (fun i => enR (((i : Int), (n : Int) - (i : Int)), wdX i)) (fun i => [(7, Dt.int (0 + (i : Nat)))]) ?lct49 ?lcm49 ?lce49, ?lcc49⟩
      case lcl49 =>
        rw [List.length_map, List.length_range]; omega
      case lct49 =>
        rintro t ht Y ⟨s', H', C, cl, fp, rfl⟩
        exact (a_n 7 sc_law.nd)
      case lcm49 =>
        intro t p hp
        simp at hp
        simp [hp]
      case lce49 =>
        rintro t ht Y ⟨s', H', C, cl, fp, rfl⟩
        refine e_tup ?_
        refine ea_cons ?_
        refine e_kk ?_
        refine ea_cons ?_
        refine e_v 7 ?_
        refine ea_cons ?_
        refine e_bin ?_
        refine e_v 2 ?_
        refine e_v 7 ?_
        refine w_sub ?_
        refine ea_nil ?_
        refine ⟨(_, _), rfl, ?_⟩
        refine ea_cons ?_
        refine e_ix ?_
        refine e_lst ?_
        refine ea_cons ?_
        refine e_str ?_
        refine ea_cons ?_
        refine e_str ?_
        refine ea_nil ?_
        refine ⟨Nat.le_of_ble_eq_true rfl, ?_⟩
        refine e_bin ?_
        refine e_callTy (id := "int") (by rfl) m_int b_int ?_
        refine ea_cons ?_
        refine e_v 7 ?_
        refine ea_nil ?_
        first | refine wc_int ?_ | refine wc_intB ?_ | refine wc_intS (by walk_at "sc") (by walk_at "sc") ?_
        refine e_int ?_
        first | refine w_mod (by decide) ?_ | refine w_mod (by walk_at "sc") ?_ | refine w_modN (by walk_at "sc") ?_
        refine wi_lst (by rw [Int.zero_add]; exact wdX_at _) ?_
        refine ea_nil ?_
        refine ⟨Nat.le_of_ble_eq_true rfl, ?_⟩
        rw [Int.zero_add]; rfl
      rintro acc rfl
      rw [take_map_all]
      refine ⟨_, [(n : Int)], rowX n, _, _, by unfold rowX; rw [List.map_map]; rfl, ⟨by simp, by unfold rowX; rw [List.length_map, List.length_range]; omega, by decide, fun e he => ?_⟩⟩
      unfold rowX at he
      obtain ⟨i, _, rfl⟩ := List.mem_map.mp he
      exact .inl (wdX_ok i)
    · exact s_nil ⟨_, _, _, _, _, rfl, st1⟩
  rintro G ⟨lim, looks, R, g6, g7, rfl, st⟩
  refine s_cons (s_if ?_)
  refine t_not ?_
  refine t_val ?_
  refine e_call (dds := []) c__law_agrees hr (by rfl) (fun _ => .nil) ?_
  refine ea_cons ?_
  refine e_v 2 ?_
  refine ea_cons ?_
  refine e_v 3 ?_
  refine ea_cons ?_
  refine e_v 5 ?_
  refine ea_nil ?_
  refine ⟨rfl, ?_⟩
  refine u__law_agreesF st ?_
  refine ⟨_, rfl, ?_⟩
  refine ite_f rfl ?_
  refine s_nil ?_
  refine s_cut (fun G => ∃ (R : Al Str), G = [.sh (.frl (ns.map .int)), .sh (.adr b), .sh (.int lim), .sh (.lst (looks.map .int)), .sh (dA .str rl1), .sh (.lst (R.map enR)), g6, g7] ∧ StF 32 looks R) (s_if ?_) ?_
  · refine t_cmp ?_
    refine e_callX c__law_take hr (by rfl) ?_
    refine ea_cons ?_
    refine e_v 1 ?_
    refine ea_cons ?_
    refine e_int ?_
    refine ea_nil ?_
    refine ⟨_, rfl, rfl, ?_⟩
    refine u_take (by walk_at "sc") ?_
    intro v4 va4 vb4
    refine e_int ?_
    first | refine w_eqI ?_ | refine w_eqT ?_ | refine w_eqB ?_ | refine w_eqD hr.units (by walk_at "ok") (by walk_at "ok") ?_
    refine ⟨_, rfl, ?_⟩
    refine ite_b (fun h => ?_) (fun h => ?_)
    · refine s_one (s_a 5 sc_law.nd ?_)
      refine e_rev ?_
      refine e_v 5 ?_
      refine ⟨_, rfl, ?_⟩
      refine ⟨R.reverse, by rw [List.map_reverse]; rfl, ⟨st.1, by rw [List.length_reverse]; exact st.2.1, st.2.2.1, fun e he => st.2.2.2 e (List.mem_reverse.mp he)⟩⟩
    · exact s_nil ⟨_, rfl, st⟩
  rintro G ⟨R, rfl, st2⟩
  have k1 : StF 32 looks R ∧ 32 ≤ 100 := ⟨st2, by decide⟩
  refine s_cons (s_unpack ?_)
  refine e_callX c__law_spoil hr (by rfl) ?_
  refine ea_cons ?_
  refine e_v 1 ?_
  refine ea_cons ?_
  refine e_v 2 ?_
  refine ea_cons ?_
  refine e_v 3 ?_
  refine ea_cons ?_
  refine e_v 5 ?_
  refine ea_nil ?_
  refine ⟨_, rfl, rfl, ?_⟩
  refine u__law_spoilX k1 ?_
  intro lim5 looks5 rul5 st5
  refine ⟨_, (a_tup rfl (as_cons (a_n 2 sc_law.nd) (as_cons (a_n 3 sc_law.nd) (as_cons (a_n 5 sc_law.nd) as_nil)))), ?_⟩
  show S _ _ _ [_, _, _, _, _, _, _, _] _
  refine s_cons (s_if ?_)
  refine t_not ?_
  refine t_val ?_
  refine e_call (dds := []) c__law_agrees hr (by rfl) (fun _ => .nil) ?_
  refine ea_cons ?_
  refine e_v 2 ?_
  refine ea_cons ?_
  refine e_v 3 ?_
  refine ea_cons ?_
  refine e_v 5 ?_
  refine ea_nil ?_
  refine ⟨rfl, ?_⟩
  refine u__law_agreesF st5 ?_
  refine ⟨_, rfl, ?_⟩
  refine ite_f rfl ?_
  refine s_nil ?_
  have k2 : StF 66 looks5 rul5 ∧ 66 ≤ 100 := ⟨st5, by decide⟩
  refine s_cons (s_unpack ?_)
  refine e_callX c__law_spoil hr (by rfl) ?_
  refine ea_cons ?_
  refine e_v 1 ?_
  refine ea_cons ?_
  refine e_v 2 ?_
  refine ea_cons ?_
  refine e_v 3 ?_
  refine ea_cons ?_
  refine e_v 5 ?_
  refine ea_nil ?_
  refine ⟨_, rfl, rfl, ?_⟩
  refine u__law_spoilX k2 ?_
  intro lim6 looks6 rul6 st6
  refine ⟨_, (a_tup rfl (as_cons (a_n 2 sc_law.nd) (as_cons (a_n 3 sc_law.nd) (as_cons (a_n 5 sc_law.nd) as_nil)))), ?_⟩
  show S _ _ _ [_, _, _, _, _, _, _, _] _
  refine s_one (s_ret ?_)
  refine e_call (dds := []) c__law_agrees hr (by rfl) (fun _ => .nil) ?_
  refine ea_cons ?_
  refine e_v 2 ?_
  refine ea_cons ?_
  refine e_v 3 ?_
  refine ea_cons ?_
  refine e_v 5 ?_
  refine ea_nil ?_
  refine ⟨rfl, ?_⟩
  refine u__law_agreesF st6 ?_
  rfl

theorem okh__law_bad_words {f : Addr} {fd : FuncData} {k : Nat} {dvs : List V} {kws : List (Str × V)} (F : FD K "_law_bad_words" "_law_bad_words" s__law_bad_words dvs kws f fd) (m_range : mg "range" = none) : L2H.FnH P w K mg base (L2N.CX P w) (k + 1) f fd ["_law_limit", "_law_rule"] (spD K 2 ph__law_bad_wordsX) := by
  refine fn_okHt F sc__law_bad_words rfl fun X cdv A outer s H E pp ds q xd hX hr hph hl Fr wf xok => ?_
  subst hX
  obtain ⟨p0, hot1, hp0⟩ := id hr.hot
  obtain ⟨lim, R, rfl, ⟨h30, hrl, hwk⟩, hq⟩ := hph
  show S _ _ _ [_, _, _, _, _, _, _, _, _] _
  refine s_cons (s_a 2 sc__law_bad_words.nd ?_)
  refine e_lst ?_
  refine ea_cons ?_
  refine e_str ?_
  refine ea_cons ?_
  refine e_str ?_
  refine ea_cons ?_
  refine e_str ?_
  refine ea_cons ?_
  refine e_str ?_
  refine ea_cons ?_
  refine e_str ?_
  refine ea_cons ?_
  refine e_str ?_
  refine ea_nil ?_
  refine ⟨Nat.le_of_ble_eq_true rfl, ?_⟩
  show S _ _ _ [_, _, _, _, _, _, _, _, _] _
  refine s_cons (s_aO 3 sc__law_bad_words.nd (ew_dnew ?_))
  show S _ _ _ [_, _, _, _, _, _, _, _, _] _
  refine s_cons (s_forHI (passes_of rfl) (by first | exact hr.hot | exact ⟨p0, hot1, List.mem_cons_self⟩) ?_)
  refine i_lstH ?_
  refine e_v 1 ?_
  refine ⟨_, rfl, ?_⟩
  refine ⟨fun i G => ∃ g4 g5 : Sl, G = [.sh (.int (lim : Nat)), .sh (.lst (R.map enR)), .sh (.lst (oddW.map .str)), .ow (dA .str (dcR (R.take i))), g4, g5, .no, .no, .no], ⟨_, _, rfl⟩, ?_, ?_⟩
  · rintro i d G hd ⟨g4, g5, rfl⟩
    obtain ⟨e, he, rfl⟩ : ∃ e, R[i]? = some e ∧ d = enR e := by
      rw [List.getElem?_map] at hd
      cases z : R[i]? with
      | none => rw [z] at hd; cases hd
      | some e => rw [z] at hd; exact ⟨e, rfl, (Option.some.inj hd).symm⟩
    have hl9 : (dcR (R.take i)).length < 100000 := by
      have := dcR_len (R.take i)
      have := List.length_take_le' i R
      omega
    refine ⟨_, (a_tupHt (by first | exact hr.hot | exact ⟨p0, hot1, List.mem_cons_self⟩) (as_cons (a_n 4 sc__law_bad_words.nd) (as_cons (a_n 5 sc__law_bad_words.nd) as_nil))), ?_⟩
    show S _ _ _ [_, _, _, _, _, _, _, _, _] _
    refine s_one (s_dputA 3 hr.u1 rfl rfl (by first | exact .inl rfl | exact .inr (.inl rfl) | exact .inr (.inr rfl)) (by walk_at "sc") ?_)
    refine e_v 5 ?_
    refine ⟨_, rfl, ?_⟩
    refine e_v 4 ?_
    refine ⟨_, rfl, ?_⟩
    rw [← dcR_take he]
    exact ⟨_, _, rfl⟩
  rintro G ⟨g4, g5, rfl⟩
  rw [List.length_map, List.take_length]
  refine s_frz1 3 rfl ?_
  have okw : ∀ e ∈ dcR R, PyData.strOk e.2 = true := dcR_mem (p := fun y => PyData.strOk y = true) fun e he => (hwk e he).ok
  have okL : okD (.lst (oddW.map .str)) = true := ok_strs odd_ok
  have hcl := cnt_len h30
  generalize dcR R = D at *
  have lenF : ∀ L : List (Int × Int), (L.flatMap (stepB D)).length ≤ L.length := fun L => by
    induction L with
    | nil => exact Nat.le_refl _
    | cons c L ih =>
      rw [List.flatMap_cons, List.length_append, List.length_cons]
      have : (stepB D c).length ≤ 1 := by unfold stepB; cases lk D c with | none => decide | some x => dsimp only; split <;> first | exact Nat.le_refl 1 | exact Nat.zero_le 1
      omega
  refine s_cons (s_aN 6 sc__law_bad_words.nd (en_lst ?_))
  refine ea_nil ?_
  refine ⟨Nat.le_of_ble_eq_true rfl, ?_⟩
  show S _ _ _ [_, _, _, _, _, _, _, _, _] _
  refine s_cons (s_forHI (passes_of rfl) (by first | exact hr.hot | exact ⟨p0, hot1, List.mem_cons_self⟩) ?_)
  refine i_range2H (by rfl) m_range ?_
  refine ea_cons ?_
  refine e_int ?_
  refine ea_cons ?_
  refine e_bin ?_
  refine e_v 0 ?_
  refine e_int ?_
  first | refine w_add ?_ | refine w_catT (by walk_at "sc") ?_ | refine w_addS (by walk_at "sc") ?_ | refine w_catL (by walk_at "sc") ?_
  refine ea_nil ?_
  refine ⟨_, _, rfl, by walk_at "sc", ?_⟩
  refine ⟨fun i G => ∃ g7 g8 : Sl, G = [.sh (.int (lim : Nat)), .sh (.lst (R.map enR)), .sh (.lst (oddW.map .str)), .sh (dA .str D), g4, g5, .ow (.lst (((cnt i).flatMap (stepB D)).map .str)), g7, g8], ⟨_, _, rfl⟩, ?_, ?_⟩
  · rintro i d G hd ⟨g7, g8, rfl⟩
    obtain ⟨hi, rfl⟩ := rangeD_get hd
    refine ⟨_, (a_n 7 sc__law_bad_words.nd), ?_⟩
    show S _ _ _ [_, _, _, _, _, _, _, _, _] _
    refine s_one (s_forHI (passes_of rfl) (by first | exact hr.hot | exact ⟨p0, hot1, List.mem_cons_self⟩) ?_)
    refine i_range1H (by rfl) m_range ?_
    refine ea_cons ?_
    refine e_bin ?_
    refine e_v 7 ?_
    refine e_int ?_
    first | refine w_add ?_ | refine w_catT (by walk_at "sc") ?_ | refine w_addS (by walk_at "sc") ?_ | refine w_catL (by walk_at "sc") ?_
    refine ea_nil ?_
    refine ⟨_, rfl, by walk_at "sc", by walk_at "sc", ?_⟩
    refine ⟨fun j G => ∃ g8 : Sl, G = [.sh (.int (lim : Nat)), .sh (.lst (R.map enR)), .sh (.lst (oddW.map .str)), .sh (dA .str D), g4, g5, .ow (.lst (((cnt i ++ cRow (1 + (i : Nat)) j).flatMap (stepB D)).map .str)), .sh (.int (1 + (i : Nat))), g8], ⟨_, by rw [show cRow (1 + (i : Nat)) 0 = [] from rfl, List.append_nil]⟩, ?_, ?_⟩
    · rintro j d G hd ⟨g8, rfl⟩
      obtain ⟨hj, rfl⟩ := rangeD_get hd
      have nxt : (cnt i ++ cRow (1 + (i : Nat)) (j + 1)).flatMap (stepB D) = (cnt i ++ cRow (1 + (i : Nat)) j).flatMap (stepB D) ++ stepB D ((j : Int), 1 + (i : Int) - (j : Int)) := by
        rw [cRow_succ, ← List.append_assoc, List.flatMap_append, List.flatMap_cons, List.flatMap_nil, List.append_nil]
      have hl5 : ((cnt i ++ cRow (1 + (i : Nat)) j).flatMap (stepB D)).length ≤ 900 := by
        have := lenF (cnt i ++ cRow (1 + (i : Nat)) j)
        rw [List.length_append] at this
        have h2 := cnt_len (n := i) (by omega)
        have h3 : (cRow (1 + (i : Nat)) j).length = j := by unfold cRow; rw [List.length_map, List.length_range]
        omega
      rw [Int.zero_add]
      refine ⟨_, (a_n 8 sc__law_bad_words.nd), ?_⟩
      show S _ _ _ [_, _, _, _, _, _, _, _, _] _
      have fin : ∀ (L' : List Str) (g8 : Sl), L' = (cnt i ++ cRow (1 + (i : Nat)) j).flatMap (stepB D) ++ stepB D ((j : Int), 1 + (i : Int) - (j : Int)) → ∃ g8' : Sl, ([.sh (.int (lim : Nat)), .sh (.lst (R.map enR)), .sh (.lst (oddW.map .str)), .sh (dA .str D), g4, g5, .ow (.lst (L'.map .str)), .sh (.int (1 + (i : Nat))), g8] : List Sl) = [.sh (.int (lim : Nat)), .sh (.lst (R.map enR)), .sh (.lst (oddW.map .str)), .sh (dA .str D), g4, g5, .ow (.lst (((cnt i ++ cRow (1 + (i : Nat)) (j + 1)).flatMap (stepB D)).map .str)), .sh (.int (1 + (i : Nat))), g8'] := fun L' g8 h => ⟨g8, by rw [nxt, h]⟩
      clear nxt
      generalize (cnt i ++ cRow (1 + (i : Nat)) j).flatMap (stepB D) = L at *
      refine s_one (s_if ?_)
      have okd : okD (.str ((lk D ((j : Nat), 1 + (i : Nat) - ((j : Nat) : Int))).getD (Str.ofString "no word"))) = true := by
        cases hk : lk D ((j : Nat), 1 + (i : Nat) - ((j : Nat) : Int)) with
        | none => decide +kernel
        | some x => exact okw _ (lk_mem hk)
      refine t_cmp ?_
      refine e_dget2S hr.u1 ?_
      refine e_v 3 ?_
      refine ⟨_, rfl, ?_⟩
      refine e_kk ?_
      refine ea_cons ?_
      refine e_v 8 ?_
      refine ea_cons ?_
      refine e_bin ?_
      refine e_v 7 ?_
      refine e_v 8 ?_
      refine w_sub ?_
      refine ea_nil ?_
      refine ⟨(_, _), rfl, ?_⟩
      refine ⟨_, rfl, ?_⟩
      refine e_str ?_
      refine ⟨_, rfl, ?_⟩
      refine e_v 2 ?_
      refine w_inD hr.u65 okd okL ?_
      refine ⟨_, rfl, ?_⟩
      rw [any_str]
      cases hk : lk D ((j : Nat), 1 + (i : Nat) - ((j : Nat) : Int)) with
      | none =>
        refine ite_f (by decide +kernel) ?_
        exact s_nil (fin _ _ (by unfold stepB; rw [hk]; exact (List.append_nil _).symm))
      | some x =>
        by_cases ho : x ∈ oddW
        · refine ite_t (decide_eq_true ho) ?_
          have hap : (L.map Dt.str).length < 100000 := by rw [List.length_map]; omega
          refine s_one (s_app 6 rfl rfl (by first | exact .inl rfl | exact .inr (.inl rfl) | exact .inr (.inr rfl)) (by walk_at "sc") ?_)
          refine e_dgetA hr.u1 ?_
          refine e_v 3 ?_
          refine ⟨_, _, _, rfl, ?_⟩
          refine e_kk ?_
          refine ea_cons ?_
          refine e_v 8 ?_
          refine ea_cons ?_
          refine e_bin ?_
          refine e_v 7 ?_
          refine e_v 8 ?_
          refine w_sub ?_
          refine ea_nil ?_
          refine ⟨(_, _), rfl, ?_⟩
          refine ⟨_, _, rfl, by walk_at "sc", ?_⟩
          rw [show L.map Dt.str ++ [Dt.str x] = (L ++ [x]).map Dt.str by rw [List.map_append]; rfl]
          exact fin _ _ (by unfold stepB; rw [hk]; dsimp only; rw [if_pos ho])
        · refine ite_f (decide_eq_false ho) ?_
          exact s_nil (fin _ _ (by unfold stepB; rw [hk]; dsimp only; rw [if_neg ho, List.append_nil]))
    · rintro G ⟨g8, rfl⟩
      refine ⟨.sh (.int (1 + (i : Nat))), g8, ?_⟩
      rw [rangeD_length, show (1 + (i : Int) + 1).toNat = i + 2 by omega, cnt_succ]
  · rintro G ⟨g7, g8, rfl⟩
    rw [rangeD_length, show ((lim : Int) + 1 - 1).toNat = lim by omega]
    have e : badW lim D = (cnt lim).flatMap (stepB D) := by unfold badW; exact badW_flat D _
    rw [e] at hq
    refine s_one (s_ret ?_)
    refine e_v 6 ?_
    exact hq

end
theorem facts {w : World} {K : PySem.W.Frag} {h : Heap} {mg : Str → Option Value} {f : Addr} (X : K.In h) (G : h.Ns mainGlobals mg) (hfa : mg ("law" : Str) = some (.ref f)) (c : SaysV Pg.main.file fa fn es (exOf xs) K) :
    ∃ fd : FuncData, (∀ (s : Shared) (v : Value), BindsTo s fd ⟨[v], []⟩ [("_law_script", v)]) ∧ ∀ base : Heap, K.In base → base.Ns mainGlobals mg → FnOk Pg w K mg base (L2N.CX Pg w) 10 f fd ["_law_script"] (spLaw K) := by
  have cV := c
  replace c := cV.d
  obtain ⟨fd__law_box, F__law_box⟩ := c.def_ 0 (d := d__law_box) rfl
  have g__law_box := He.glo_ok X G (c.fact 0 (f := .glo "_law_box") rfl)
  obtain ⟨fd__law_take, F__law_take⟩ := c.def_ 1 (d := d__law_take) rfl
  have g__law_take := He.glo_ok X G (c.fact 1 (f := .glo "_law_take") rfl)
  obtain ⟨fd__law_gcd, F__law_gcd⟩ := c.def_ 2 (d := d__law_gcd) rfl
  have g__law_gcd := He.glo_ok X G (c.fact 2 (f := .glo "_law_gcd") rfl)
  obtain ⟨fd__law_ratio, F__law_ratio⟩ := c.def_ 3 (d := d__law_ratio) rfl
  have g__law_ratio := He.glo_ok X G (c.fact 3 (f := .glo "_law_ratio") rfl)
  obtain ⟨fd__law_word, F__law_word⟩ := c.def_ 4 (d := d__law_word) rfl
  have g__law_word := He.glo_ok X G (c.fact 4 (f := .glo "_law_word") rfl)
  obtain ⟨fd__law_parts, F__law_parts⟩ := c.def_ 5 (d := d__law_parts) rfl
  have g__law_parts := He.glo_ok X G (c.fact 5 (f := .glo "_law_parts") rfl)
  obtain ⟨fd__law_spoil, F__law_spoil⟩ := c.def_ 6 (d := d__law_spoil) rfl
  have g__law_spoil := He.glo_ok X G (c.fact 6 (f := .glo "_law_spoil") rfl)
  obtain ⟨fd__law_fault, F__law_fault⟩ := c.def_ 7 (d := d__law_fault) rfl
  have g__law_fault := He.glo_ok X G (c.fact 7 (f := .glo "_law_fault") rfl)
  obtain ⟨fd__law_bad_words, F__law_bad_words⟩ := c.def_ 8 (d := d__law_bad_words) rfl
  have g__law_bad_words := He.glo_ok X G (c.fact 8 (f := .glo "_law_bad_words") rfl)
  obtain ⟨fd_common_divisor, F_common_divisor⟩ := c.def_ 9 (d := d_common_divisor) rfl
  have g_common_divisor := He.glo_ok X G (c.fact 9 (f := .glo "common_divisor") rfl)
  obtain ⟨fd_is_share, F_is_share⟩ := c.def_ 10 (d := d_is_share) rfl
  have g_is_share := He.glo_ok X G (c.fact 10 (f := .glo "is_share") rfl)
  obtain ⟨fd_read_number, F_read_number⟩ := c.def_ 11 (d := d_read_number) rfl
  have g_read_number := He.glo_ok X G (c.fact 11 (f := .glo "read_number") rfl)
  obtain ⟨fd_read_share, F_read_share⟩ := c.def_ 12 (d := d_read_share) rfl
  have g_read_share := He.glo_ok X G (c.fact 12 (f := .glo "read_share") rfl)
  obtain ⟨fd_read_word, F_read_word⟩ := c.def_ 13 (d := d_read_word) rfl
  have g_read_word := He.glo_ok X G (c.fact 13 (f := .glo "read_word") rfl)
  obtain ⟨fd_check_table, F_check_table⟩ := c.def_ 14 (d := d_check_table) rfl
  have g_check_table := He.glo_ok X G (c.fact 14 (f := .glo "check_table") rfl)
  obtain ⟨fd_Table_is_end, F_Table_is_end⟩ := c.def_ 15 (d := d_Table_is_end) rfl
  obtain ⟨fd_Table_spread, F_Table_spread⟩ := c.def_ 16 (d := d_Table_spread) rfl
  obtain ⟨fd_Table___contains__, F_Table___contains__⟩ := c.def_ 17 (d := d_Table___contains__) rfl
  obtain ⟨fd_Table___init__, F_Table___init__⟩ := c.def_ 18 (d := d_Table___init__) rfl
  obtain ⟨fd__law_asked, F__law_asked⟩ := c.def_ 19 (d := d__law_asked) rfl
  have g__law_asked := He.glo_ok X G (c.fact 15 (f := .glo "_law_asked") rfl)
  obtain ⟨fd__law_agrees, F__law_agrees⟩ := c.def_ 20 (d := d__law_agrees) rfl
  have g__law_agrees := He.glo_ok X G (c.fact 16 (f := .glo "_law_agrees") rfl)
  obtain ⟨fd_law, F_law⟩ := c.def_ 21 (d := d_law) rfl
  have g_law := He.glo_ok X G (c.fact 17 (f := .glo "law") rfl)
  have m_ValueError := He.free_ok X G (c.fact 18 (f := .free "ValueError") rfl)
  have m_abs := He.free_ok X G (c.fact 19 (f := .free "abs") rfl)
  have m_any := He.free_ok X G (c.fact 20 (f := .free "any") rfl)
  have m_int := He.free_ok X G (c.fact 21 (f := .free "int") rfl)
  have m_isinstance := He.free_ok X G (c.fact 22 (f := .free "isinstance") rfl)
  have m_len := He.free_ok X G (c.fact 23 (f := .free "len") rfl)
  have m_list := He.free_ok X G (c.fact 24 (f := .free "list") rfl)
  have m_min := He.free_ok X G (c.fact 25 (f := .free "min") rfl)
  have m_range := He.free_ok X G (c.fact 26 (f := .free "range") rfl)
  have m_str := He.free_ok X G (c.fact 27 (f := .free "str") rfl)
  have m_tuple := He.free_ok X G (c.fact 28 (f := .free "tuple") rfl)
  have g_InvalidTable := He.glo_ok X G (c.fact 29 (f := .glo "InvalidTable") rfl)
  have g_InvalidWord := He.glo_ok X G (c.fact 30 (f := .glo "InvalidWord") rfl)
  have g_StopError := He.glo_ok X G (c.fact 31 (f := .glo "StopError") rfl)
  have g_Table := He.glo_ok X G (c.fact 32 (f := .glo "Table") rfl)
  have m_super := He.free_ok X G (c.fact 33 (f := .free "super") rfl)
  have pc_Table := tableB_ok (cV.xa 0 (x := fun K => tableB K (He.ga K "Table")) rfl)
  have g_KINDS := He.glo_ok X G (c.fact 34 (f := .glo "KINDS") rfl)
  have k_KINDS : ∀ F, Rp K F d_KINDS (.ref (He.ga K "KINDS")) := fun F => rp_tup.mpr ⟨_, _, rfl, cV.tup 1 (x := "KINDS") (vs := [.str "at least", .str "below"]) rfl F, .cons (rp_str.mpr rfl) (.cons (rp_str.mpr rfl) (.nil))⟩
  have r_KINDS : RelV (.ref (He.ga K "KINDS")) (.ref (He.ga K "KINDS")) := rfl
  obtain ⟨t_MOST_DIGITS, g_MOST_DIGITS⟩ := He.int_ok X G (c.fact 35 (f := .int "MOST_DIGITS" 30) rfl)
  have k_MOST_DIGITS : ∀ F, Rp K F d_MOST_DIGITS (.int 30) := fun F => rp_int.mpr rfl
  have r_MOST_DIGITS : RelV (.int 30) (.int 30 t_MOST_DIGITS) := ⟨_, rfl⟩
  obtain ⟨t_MOST_TRIES, g_MOST_TRIES⟩ := He.int_ok X G (c.fact 36 (f := .int "MOST_TRIES" 30) rfl)
  have k_MOST_TRIES : ∀ F, Rp K F d_MOST_TRIES (.int 30) := fun F => rp_int.mpr rfl
  have r_MOST_TRIES : RelV (.int 30) (.int 30 t_MOST_TRIES) := ⟨_, rfl⟩
  obtain ⟨t_SILENT, g_SILENT⟩ := He.str_ok X G (c.fact 37 (f := .str "SILENT" "no word") rfl)
  have k_SILENT : ∀ F, Rp K F d_SILENT (.str "no word") := fun F => rp_str.mpr rfl
  have r_SILENT : RelV (.str "no word") (.str "no word" t_SILENT) := ⟨_, rfl⟩
  have e := hfa.symm.trans g_law
  cases e
  have b_law := FunD.bindsA (ps := ["_law_script"]) F_law fun _ _ _ _ _ _ us hl => match us, hl with | [_], _ => rfl
  refine ⟨fd_law, fun s v => b_law s [v] rfl, fun base _ _ => ?_⟩
  obtain ⟨fdI_InvalidTable, I_InvalidTable, X_InvalidTable, N_InvalidTable⟩ := cV.err (P := Pg) 0 (d := de_InvalidTable) rfl
  have er_InvalidTable : Er Pg w K mg base 1 "InvalidTable" "place" "place" (He.ga K "InvalidTable") := ⟨g_InvalidTable, I_InvalidTable.oc, _, fdI_InvalidTable, I_InvalidTable.iC, I_InvalidTable.tI, binds_ks I_InvalidTable (fun _ _ _ _ _ _ _ us hl => match us, hl with | [_, _], _ => rfl), init_ok1 (k := 0) rfl I_InvalidTable (N_InvalidTable _ (by simp [de_InvalidTable])) m_super (by kernel_rfl) (NdefX.nscope_by (by decide +kernel)) (by kernel_rfl) rfl rfl (fun _ _ => ⟨_, rfl⟩) (fun _ _ => rfl) (fun _ _ => rfl) (by decide) (by decide)⟩
  have n_InvalidTable_place := N_InvalidTable "place" (by simp [de_InvalidTable])
  obtain ⟨fdI_InvalidWord, I_InvalidWord, X_InvalidWord, N_InvalidWord⟩ := cV.err (P := Pg) 1 (d := de_InvalidWord) rfl
  have er_InvalidWord : Er Pg w K mg base 1 "InvalidWord" "word" "word" (He.ga K "InvalidWord") := ⟨g_InvalidWord, I_InvalidWord.oc, _, fdI_InvalidWord, I_InvalidWord.iC, I_InvalidWord.tI, binds_ks I_InvalidWord (fun _ _ _ _ _ _ _ us hl => match us, hl with | [_, _], _ => rfl), init_ok1 (k := 0) rfl I_InvalidWord (N_InvalidWord _ (by simp [de_InvalidWord])) m_super (by kernel_rfl) (NdefX.nscope_by (by decide +kernel)) (by kernel_rfl) rfl rfl (fun _ _ => ⟨_, rfl⟩) (fun _ _ => rfl) (fun _ _ => rfl) (by decide) (by decide)⟩
  have n_InvalidWord_word := N_InvalidWord "word" (by simp [de_InvalidWord])
  have x_InvalidTable_StopError := cV.exm 2 (x := "InvalidTable") (y := "StopError") (b := true) rfl
  have x_InvalidWord_StopError := cV.exm 3 (x := "InvalidWord") (y := "StopError") (b := true) rfl
  have e_InvalidTable := cV.exc 4 (x := "InvalidTable") rfl
  have e_InvalidWord := cV.exc 5 (x := "InvalidWord") rfl
  have i_InvalidTable_InvalidTable := cV.kit 6 (x := "InvalidTable") (y := "InvalidTable") (b := true) rfl
  have i_InvalidWord_InvalidWord := cV.kit 7 (x := "InvalidWord") (y := "InvalidWord") (b := true) rfl
  have i_InvalidTable_ValueError := cV.kitT 8 (x := "InvalidTable") (T := "ValueError") (b := true) rfl
  have i_InvalidWord_ValueError := cV.kitT 9 (x := "InvalidWord") (T := "ValueError") (b := true) rfl
  have c__law_box : Fn Pg w K mg base 1 "_law_box" ["_law_script"] [] (spBox K) := ⟨_, fd__law_box, [], g__law_box, F__law_box.kp, F__law_box.bindsN fun _ _ _ _ _ _ us hl => match us, hl with | [_], _ => rfl, .nil, ok__law_box (k := 0) F__law_box m_abs m_int⟩
  have c__law_take : Fn Pg w K mg base 1 "_law_take" ["_law_box_here", "_law_size"] [] (spB K 2 ph_take) := ⟨_, fd__law_take, [], g__law_take, F__law_take.kp, F__law_take.bindsN fun _ _ _ _ _ _ us hl => match us, hl with | [_, _], _ => rfl, .nil, ok__law_take (k := 0) F__law_take m_int m_len⟩
  have c__law_gcd : Fn Pg w K mg base 1 "_law_gcd" ["_law_a", "_law_b"] [] (spD K 2 ph_gcd) := ⟨_, fd__law_gcd, [], g__law_gcd, F__law_gcd.kp, F__law_gcd.bindsN fun _ _ _ _ _ _ us hl => match us, hl with | [_, _], _ => rfl, .nil, ok__law_gcd (k := 0) F__law_gcd m_abs m_int⟩
  have c__law_ratio : Fn Pg w K mg base 2 "_law_ratio" ["_law_num", "_law_den"] [] (spD K 2 ph_ratio) := ⟨_, fd__law_ratio, [], g__law_ratio, F__law_ratio.kp, F__law_ratio.bindsN fun _ _ _ _ _ _ us hl => match us, hl with | [_, _], _ => rfl, .nil, ok__law_ratio (k := 1) F__law_ratio (c__law_gcd.mono (by decide))⟩
  have c__law_word : Fn Pg w K mg base 3 "_law_word" ["_law_box_here"] [] (spB K 1 ph__law_word) := ⟨_, fd__law_word, [], g__law_word, F__law_word.kp, F__law_word.bindsN fun _ _ _ _ _ _ us hl => match us, hl with | [_], _ => rfl, .nil, ok__law_word (k := 2) F__law_word m_int m_str (c__law_take.mono (by decide)) (c__law_ratio.mono (by decide))⟩
  have c__law_parts : Fn Pg w K mg base 4 "_law_parts" ["_law_box_here", "_law_most"] [] (spB K 2 ph__law_parts) := ⟨_, fd__law_parts, [], g__law_parts, F__law_parts.kp, F__law_parts.bindsN fun _ _ _ _ _ _ us hl => match us, hl with | [_, _], _ => rfl, .nil, ok__law_parts (k := 3) F__law_parts m_int m_range (c__law_take.mono (by decide)) (c__law_word.mono (by decide))⟩
  have c__law_spoil : Fn Pg w K mg base 2 "_law_spoil" ["_law_box_here", "_law_limit", "_law_looks", "_law_rule"] [] (spB K 4 ph__law_spoilX) := ⟨_, fd__law_spoil, [], g__law_spoil, F__law_spoil.kp, F__law_spoil.bindsN fun _ _ _ _ _ _ us hl => match us, hl with | [_, _, _, _], _ => rfl, .nil, ok__law_spoil (k := 1) F__law_spoil m_len m_min (c__law_take.mono (by decide))⟩
  have c__law_fault : Fn Pg w K mg base 1 "_law_fault" ["_law_limit", "_law_looks", "_law_rule"] [] (spD K 3 ph__law_faultX) := ⟨_, fd__law_fault, [], g__law_fault, F__law_fault.kp, F__law_fault.bindsN fun _ _ _ _ _ _ us hl => match us, hl with | [_, _, _], _ => rfl, .nil, ok__law_fault (k := 0) F__law_fault m_len m_range⟩
  have c__law_bad_words_h : FnHt Pg w K mg base 1 "_law_bad_words" ["_law_limit", "_law_rule"] (spD K 2 ph__law_bad_wordsX) := ⟨_, fd__law_bad_words, g__law_bad_words, F__law_bad_words.kp, F__law_bad_words.bindsN fun _ _ _ _ _ _ us hl => match us, hl with | [_, _], _ => rfl, okh__law_bad_words (k := 0) F__law_bad_words m_range⟩
  have c__law_bad_words : Fn Pg w K mg base 1 "_law_bad_words" ["_law_limit", "_law_rule"] [] (spD K 2 ph__law_bad_wordsX) := ⟨_, fd__law_bad_words, [], g__law_bad_words, F__law_bad_words.kp, F__law_bad_words.bindsN fun _ _ _ _ _ _ us hl => match us, hl with | [_, _], _ => rfl, .nil, ok__law_bad_words (k := 0) F__law_bad_words m_range⟩
  have c_common_divisor : Fn Pg w K mg base 1 "common_divisor" ["first", "second"] [] (spD K 2 ph_gcd) := ⟨_, fd_common_divisor, [], g_common_divisor, F_common_divisor.kp, F_common_divisor.bindsN fun _ _ _ _ _ _ us hl => match us, hl with | [_, _], _ => rfl, .nil, ok_common_divisor (k := 0) F_common_divisor m_abs⟩
  have c_is_share : Fn Pg w K mg base 2 "is_share" ["value"] [] (spD K 1 ph_is_share) := ⟨_, fd_is_share, [], g_is_share, F_is_share.kp, F_is_share.bindsN fun _ _ _ _ _ _ us hl => match us, hl with | [_], _ => rfl, .nil, ok_is_share (k := 1) F_is_share (c_common_divisor.mono (by decide))⟩
  have c_read_number : Fn Pg w K mg base 1 "read_number" ["text", "most"] [] (spD K 2 ph_read_number) := ⟨_, fd_read_number, [], g_read_number, F_read_number.kp, F_read_number.bindsN fun _ _ _ _ _ _ us hl => match us, hl with | [_, _], _ => rfl, .nil, ok_read_number (k := 0) F_read_number m_any m_int m_len⟩
  have c_read_share : Fn Pg w K mg base 3 "read_share" ["text"] [] (spD K 1 ph_read_share) := ⟨_, fd_read_share, [], g_read_share, F_read_share.kp, F_read_share.bindsN fun _ _ _ _ _ _ us hl => match us, hl with | [_], _ => rfl, .nil, ok_read_share (k := 2) F_read_share (c_is_share.mono (by decide)) (c_read_number.mono (by decide)) g_MOST_DIGITS r_MOST_DIGITS k_MOST_DIGITS⟩
  have c_read_word : Fn Pg w K mg base 4 "read_word" ["word"] [] (spD K 1 (ph_read_word (He.ga K "InvalidWord"))) := ⟨_, fd_read_word, [], g_read_word, F_read_word.kp, F_read_word.bindsN fun _ _ _ _ _ _ us hl => match us, hl with | [_], _ => rfl, .nil, ok_read_word (k := 3) F_read_word m_len (c_read_share.mono (by decide)) g_InvalidWord er_InvalidWord (by decide) g_KINDS r_KINDS k_KINDS g_SILENT r_SILENT k_SILENT⟩
  have c_check_table : Fn Pg w K mg base 5 "check_table" ["limit", "looks", "rule"] [] (spD K 3 (ph_check_tableX (He.ga K "InvalidTable") (He.ga K "InvalidWord"))) := ⟨_, fd_check_table, [], g_check_table, F_check_table.kp, F_check_table.bindsN fun _ _ _ _ _ _ us hl => match us, hl with | [_, _, _], _ => rfl, .nil, ok_check_table (k := 4) F_check_table m_any m_len m_range (c_read_word.mono (by decide)) g_InvalidTable er_InvalidTable (by decide) g_MOST_TRIES r_MOST_TRIES k_MOST_TRIES⟩
  have c_Table_is_end : FnM Pg w K mg base 1 (He.ga K "Table") "is_end" ["self", "wins", "losses"] [] (spD K 3 (ph_Table_is_end (He.ga K "Table"))) := ⟨_, fd_Table_is_end, [], methB_ok (cV.xa 10 (x := fun K => methB K (He.ga K "Table") "is_end") rfl), F_Table_is_end.bindsN fun _ _ _ _ _ _ us hl => match us, hl with | [_, _, _], _ => rfl, .nil, ok_Table_is_end (k := 0) F_Table_is_end pc_Table⟩
  have c_Table_spread : FnM Pg w K mg base 2 (He.ga K "Table") "spread" ["self", "wins", "losses"] [] (spD K 3 (ph_Table_spread (He.ga K "Table"))) := ⟨_, fd_Table_spread, [], methB_ok (cV.xa 11 (x := fun K => methB K (He.ga K "Table") "spread") rfl), F_Table_spread.bindsN fun _ _ _ _ _ _ us hl => match us, hl with | [_, _, _], _ => rfl, .nil, ok_Table_spread (k := 1) F_Table_spread m_range (c_Table_is_end.mono (by decide)) pc_Table⟩
  have c_Table___contains__ : FnM Pg w K mg base 2 (He.ga K "Table") "__contains__" ["self", "counts"] [] (spD K 2 (ph_Table___contains__ (He.ga K "Table"))) := ⟨_, fd_Table___contains__, [], methB_ok (cV.xa 12 (x := fun K => methB K (He.ga K "Table") "__contains__") rfl), F_Table___contains__.bindsN fun _ _ _ _ _ _ us hl => match us, hl with | [_, _], _ => rfl, .nil, ok_Table___contains__ (k := 1) F_Table___contains__ (c_Table_is_end.mono (by decide)) pc_Table⟩
  have mk_Table := mkB_ok (cV.xa 13 (x := fun K => mkB K (He.ga K "Table")) rfl)
  have c_Table : FnC Pg w K mg base 7 "Table" 3 (ph_Table___init__X (He.ga K "Table") (He.ga K "InvalidTable") (He.ga K "InvalidWord")) := ⟨_, g_Table, mk_Table.kp, mk_spD mk_Table (raw0 (ok_Table___init__ (k := 5) F_Table___init__ m_range m_tuple (c_check_table.mono (by decide)) (c_Table_spread.mono (by decide)) (c_Table___contains__.mono (by decide)) pc_Table) (F_Table___init__.bindsN fun _ _ _ _ _ _ us hl => match us, hl with | [_, _, _, _], _ => rfl)) cxUpn⟩
  have c__law_asked : Fn Pg w K mg base 8 "_law_asked" ["_law_limit", "_law_looks", "_law_passed", "_law_rule"] [] (spD K 4 ph__law_askedX) := ⟨_, fd__law_asked, [], g__law_asked, F__law_asked.kp, F__law_asked.bindsN fun _ _ _ _ _ _ us hl => match us, hl with | [_, _, _, _], _ => rfl, .nil, ok__law_asked (k := 7) F__law_asked m_ValueError m_isinstance m_list (c__law_fault.mono (by decide)) (c__law_bad_words.mono (by decide)) g_InvalidTable g_InvalidWord g_StopError g_Table (c__law_bad_words_h.mono (by decide)) x_InvalidTable_StopError x_InvalidWord_StopError e_InvalidTable e_InvalidWord n_InvalidTable_place n_InvalidWord_word i_InvalidTable_InvalidTable i_InvalidWord_InvalidWord i_InvalidTable_ValueError i_InvalidWord_ValueError (c_Table.mono (by decide)) pc_Table⟩
  have c__law_agrees : Fn Pg w K mg base 9 "_law_agrees" ["_law_limit", "_law_looks", "_law_rule"] [] (spD K 3 ph__law_agreesF) := ⟨_, fd__law_agrees, [], g__law_agrees, F__law_agrees.kp, F__law_agrees.bindsN fun _ _ _ _ _ _ us hl => match us, hl with | [_, _, _], _ => rfl, .nil, ok__law_agrees (k := 8) F__law_agrees m_list m_tuple (c__law_asked.mono (by decide))⟩
  exact ok_law (k := 9) F_law m_int m_range (c__law_box.mono (by decide)) (c__law_take.mono (by decide)) (c__law_parts.mono (by decide)) (c__law_spoil.mono (by decide)) (c__law_agrees.mono (by decide))
end Lk
open PySem PySem.W PySem.Calls PyProof.Rows
set_option maxRecDepth 100000 in
set_option maxHeartbeats 0 in
theorem PySem.Challenge.cw_lookstop_k26_tables_accepted_or_refused_holds : PySem.Challenge.rw_lookstop_k26_tables_accepted_or_refused.Holds := by
  w_on; o_law
  refine HandSHeadRun.head_any (r := OpenLaw.row PySem.Challenge.rw_lookstop_k26_tables_accepted_or_refused) (q := view (OpenLaw.row PySem.Challenge.rw_lookstop_k26_tables_accepted_or_refused).prog [31]) (H := Lk.hk) (ob := Lk.ob) (M := 8000) (loose := Lk.loose) (d := HandSHeadRun.topDef (OpenLaw.row PySem.Challenge.rw_lookstop_k26_tables_accepted_or_refused).prog 31) (kwd := []) Lk.ob_eq
    (by kernel_rfl) (fun s => by kernel_rfl) Lk.run (by kernel_rfl) (by kernel_rfl) (by kernel_rfl) (by rfl) (by first | assumption | decide +kernel) (by decide +kernel) ⟨rfl, rfl, rfl, rfl, rfl, by decide +kernel⟩ ?hw ?hc
  case hw => w_witness2
  case hc =>
    refine VS.walk_ofW (l := PySem.Challenge.rw_lookstop_k26_tables_accepted_or_refused) (n := 63) (k := 10) (x := "_law_script") rfl (by decide) (by kernel_rfl) ⟨rfl, by decide, by decide⟩ ?F
    intro w mg fa h Y G hmg0
    obtain ⟨K, KX, c⟩ := Y
    have hmg : mg ("law" : PySem.Str) = some (.ref fa) := by
      have e : (HandSHeadRun.topDef (OpenLaw.row PySem.Challenge.rw_lookstop_k26_tables_accepted_or_refused).prog 31).name = ("law" : PySem.Str) := by kernel_rfl
      rw [← e]
      exact hmg0
    obtain ⟨fd, hb, hF⟩ := Lk.facts (w := w) KX G hmg c
    exact ⟨K, fd, VS.spLaw K, KX, hb, fun H a ns hl _ hS => ⟨a, ns, rfl, hS, hl, fun _ => rfl⟩, hF⟩
