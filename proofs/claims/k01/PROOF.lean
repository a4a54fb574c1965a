import PyProof.Rows.All
import Wide.All
import OpenK.AllK
import Wide.FinOn
import HandS.ForMost
import KE.KExcSuper
import KE.KExcInit
import KE.KSuper
import HandS.Words
import HandS.WordsExc
import HandS.Ends
import HandS.Head0
import HandS.Head1
import HandS.Head2
import HandS.HeadEnd
import HandS.HeadWalk
import HandS.HeadHook1
import HandS.HeadHook2
import HandS.HeadNt
import PySem.Challenge.RW_keptlaws_k01_errors_by_themselves
import HandS.Zip
import PyProof.EnumMake
import PyProof.Draws
import KE.KDictZip
import KE.GoesZip
import HandS.Dict
import HandS.ExcInit
import HandS.Defaults
import HandS.ExcValue
import KE.KExcIs
import HandS.ExcField
import HandS.ExcIs
import HandS.IsInst
import HandS.Exc
import HandS.ExcOwn
import HandS.Star
import HandS.Wide
import HandS.NoneIn
import HandS.Deep
import HandS.TupAny
import HandS.DictEq
import HandS.SortInts
import HandS.RaiseMore
import PyProof.FitsInt
import PyProof.StrLawsChain
import HandS.WordsDict
import HandS.More
import PyProof.InstNe
import HandS.Property
import HandS.ClsMeth
import KE.KStar
import HandS.FStr
import HandS.Style
import HandS.DictComp
set_option Elab.async false
set_option linter.all false
set_option maxRecDepth 100000
set_option maxHeartbeats 0
/-! Dn, part RA: pure data, the copied syntax, a law's tables, what the head is asked. -/
namespace DnX
open PySem L2
/-- an exception's object, its class, its dict -/
def exq (a C dx : Addr) : HO := .ext fun h => ∃ (oe : Obj) (vs : Array Value), h.get? a = some oe ∧ oe.cls = .ref C ∧ oe.dict = some dx ∧ oe.data = .fields vs
end DnX
namespace Dn
open PySem PySem.Spec PyProof.Rows L2
/-- pure data: no object of it is ever changed; dct true: a dict whose keys are tuples; ktp: a tuple of the module's top; scr: the law's script -/
inductive P where
  | non | bl (b : Bool) | int (i : Int) | str (s : Str)
  | tup (l : List P) | lst (l : List P) | dct (t : Bool) (l : List (P × P)) | ins (c : Nat) (l : List (Nat × P)) | ktp (l : List P) | scr (l : List Int) | cls (c : Nat) | exn (c : Nat) (l : List (Nat × P))
inductive BOp where | add | sub | mul | mod | fdiv | pow
inductive COp where | eq | ne | lt | le | gt | ge | isn | notn | inn | nin
inductive Ty where | int | bool | str | list | tuple | dict | own (c : Nat)
inductive BF where | len | int | abs | list | listM | tuple | all | any | sum | str | repr | sorted | min | max
inductive BM where | join | append | reverse | clear | split | extend | insert | pop | index
mutual
inductive T where | nm (i : Nat) | tp (l : TL)
inductive TL where | nil | cons (t : T) (l : TL)
end
/-- a class of exceptions: an own one; ValueError, LookupError, IndexError -/
inductive XT where | own (c : Nat) | blt (n : Nat)
  deriving DecidableEq
mutual
inductive RE where
  | var (i : Nat)
  | cst (x : P)
  | glo (n : Nat)
  | tup (l : RL) | lst (mu : Bool) (l : RL)
  | bin (o : BOp) (a b : RE) | neg (a : RE)
  | cmp (o : COp) (a b : RE) | cmp2 (o o' : COp) (a b c : RE)
  | and (a b : RE) | or (a b : RE) | not (a : RE)
  | ite (c a b : RE)
  | isi (a : RE) (one : Bool) (l : List Ty)
  | ix (a b : RE) | sl (a : RE) (lo hi : RO)
  | call (f : Nat) (l : RL)
  | callK (f : Nat) (l kl : RL) (pm : List Nat)
  | bcl (f : BF) (l : RL)
  | bmt (f : BM) (a : RE) (l : RL)
  | lc (mu : Bool) (elt : RE) (t : T) (it : RI) (c : RO) (own : List Nat)
  | lc2 (mu : Bool) (elt : RE) (t : T) (it : RI) (c : RO) (t1 : T) (it1 : RI) (c1 : RO) (own own1 : List Nat)
  | frz (a : RE)
  | fld (a : RE) (f : Nat)
  | meth (a : RE) (n : Nat) (l : RL)
  | make (c : Nat) (l : RL)
  | ccon (c n : Nat)
  | smeth (s n : Nat) (l : RL)
  | smethK (f s n : Nat) (kl : RL) (pm : List Nat)
  | makeV (i c : Nat) (l : RL)
  | fmt (a : RE) | fstr (l : RL)
  | prop (a : RE) (n : Nat)
  | rev (a : RE)
  | dnew (t : Bool)
  | disp (l : RL)
  | dzip (a b : RE)
  | dcm (t : Bool) (kx vx : RE) (tg : T) (it : RI) (c : RO) (own : List Nat)
  | wall
  | exn (c : Nat) (l : RL) | exnK (c : Nat) (e : RE)
  | xfld (a : RE) (f : Nat)
  | xis (a : RE) (t : XT)
inductive RL where | nil | cons (e : RE) (l : RL) | star (e : RE) (l : RL)
inductive RO where | none | some (e : RE)
inductive RI where | seq (e : RE) | rng (a : RE) | rng2 (a b : RE) | zip (l : RL) | enum (a : RE) | keys (a : RE)
end
mutual
inductive RS where
  | set (i : Nat) (e : RE)
  | asg (t : T) (e : RE)
  | par (is : List Nat) (l : RL)
  | iset (a b e : RE)
  | fset (a : RE) (f : Nat) (e : RE)
  | wall
  | aug (i : Nat) (o : BOp) (e : RE)
  | iaug (a b : RE) (o : BOp) (e : RE)
  | ex (e : RE)
  | ret (e : RE)
  | ite (c : RE) (a b : RB)
  | forr (t : T) (it : RI) (b : RB)
  | whl (n : Nat) (c : RE) (b : RB)
  | pas | brk | cnt
  | raise (c : Nat) (l : RL)
inductive RB where | nil | cons (s : RS) (b : RB) | lock (i : Nat) (b : RB)
end

/-- a def: how many parameters, slots; its defaults; is the last parameter a starred one; its body -/
structure FD where
  np : Nat
  ns : Nat
  df : List P
  st : Bool
  body : RB
/-- what the kinds of built-in values are called -/
def bts : List String := ["NoneType", "bool", "int", "str", "list", "tuple", "dict"]
/-- own methods by their numbers -/
def omN : Nat → Str
  | 0 => "__len__" | 1 => "__repr__" | 2 => "__contains__" | 3 => "__eq__" | 4 => "__bool__" | _ => "__call__"
/-- a class's statements -/
def clsBd : Stmt → List Stmt
  | .ClassDef (body := b) .. => b
  | _ => []
/-! ### a law's tables -/
open He (ga ma eqO eqO_ok ba)
/-- where a def stands -/
inductive At where | glo (x : Str) | meth (C m : Str) | prop (C m : Str) | cmet (C m : Str) | smet (C m : Str)
def At.ad (K : PySem.W.Frag) : At → Addr
  | .glo x => ga K x
  | .meth C m => ma K (ga K C) m
  | .prop C m => He5.wf K (ga K C) "property" m
  | .cmet C m => He5.wf K (ga K C) "classmethod" m
  | .smet C m => He5.wf K (ga K C) "staticmethod" m
/-- a class: its name; the fields it may be asked for; its methods, properties, __init__, own methods, constants, methods called by its name -/
structure ClD where
  name : Str
  fk : List Nat := []
  mt : List (Nat × Nat) := []
  pr : List (Nat × Nat) := []
  ini : Option Nat := none
  om : List (Nat × Nat) := []
  cc : List (Nat × P) := []
  sm : List (Nat × Nat × Bool) := []
/-- a class of exceptions: its name; its base (0 ValueError, 1 LookupError, 2 IndexError); its own __init__: code's text, the field's number, parameter, name; of which classes its instances are -/
structure XcD where
  name : Str
  base : Nat
  own : Option (Str × Option (Nat × Str × Str)) := none
  subs : List (XT × Bool) := []
def xbN : Nat → String
  | 0 => "ValueError" | 1 => "LookupError" | _ => "IndexError"
structure Tab where
  cl : List (Nat × ClD)
  fl : List (Nat × Str)
  mn : List (Nat × Str)
  cn : List (Nat × Str)
  fn : List (Nat × Str)
  gl : List (Nat × Str)
  gv : List (Nat × P)
  fd : List (Nat × FD)
  at_ : List (Nat × At)
  kw : List (Nat × Nat × List Str × List Nat)
  ex : List (Nat × XcD) := []
  kc : Nat := 0
  file : Str := ""
def fieldN (l : List (Nat × Str)) (n : Nat) : Str := (l.lookup n).getD ⟨#[1114112 + n]⟩
namespace Tab
variable (t : Tab)
def names : List Str := t.cl.map (·.2.name)
/-! what the head says -/
def clsB (K : PySem.W.Frag) (d : ClD) : Bool :=
  (He.Fa.cls d.name).ok K && (eqO (PySem.W.findIn K (.ref (ga K d.name)) "__class__") (some (some (.builtin "object.__class__"))) && (decide (PySem.W.mroIn K (ga K d.name) (.type "object") = some true) &&
  (bts.all (fun s => decide (PySem.W.kitOne K (.type s) (.ref (ga K d.name)) = some false)) && (bts.all (fun s => decide (PySem.W.kitOne K (.ref (ga K d.name)) (.type s) = some false)) &&
  (t.names.all (fun n => decide (PySem.W.kitOne K (.ref (ga K n)) (.ref (ga K d.name)) = some (decide (d.name = n))) && PySem.W.notFirst K (ga K d.name) (.ref (ga K n))) &&
  (d.fk.all (fun n => (He.Fa.noat d.name (fieldN t.fl n)).ok K) &&
  (d.mt.all (fun q => match t.mn.lookup q.1 with | some x => (He.Fa.meth d.name x).ok K | none => false) &&
  (d.om.all (fun q => (He.Fa.meth d.name (omN q.1)).ok K && (!(q.1 == 3) || eqO (PySem.W.findIn K (.ref (ga K d.name)) "__ne__") (some (some (.builtin "object.__ne__"))))) &&
  ((match d.ini with | some _ => (He.Fa.mkr d.name).ok K | none => true) &&
  (d.pr.all (fun q => match t.mn.lookup q.1 with
    | some x => eqO (PySem.W.findIn K (.ref (ga K d.name)) x) (some (some (.ref (ma K (ga K d.name) x)))) && (eqO (PySem.W.specialIn K (.ref (ma K (ga K d.name) x)) "__get__") (some (some (.builtin "property.__get__"))) &&
      (decide (PySem.W.takesIn K (.ref (ma K (ga K d.name) x)) = some true) && (match PySem.W.recIn K (ma K (ga K d.name) x) "property" with | some (.ref _ :: _) => true | _ => false)))
    | none => false) &&
  (((d.cc.isEmpty && d.sm.isEmpty) || PySem.W.readsIn K (ga K d.name) (.type "type")) &&
  (d.cc.all (fun q => match t.cn.lookup q.1, q.2 with
    | some x, .int i => (match PySem.W.findCls K (.ref (ga K d.name)) (.type "type") x with | some (.val (.int j _)) => decide (j = i) | _ => false)
    | _, _ => false) &&
  d.sm.all (fun q => match t.mn.lookup q.1 with | some x => if q.2.2 = true then He5.wrapB K (ga K d.name) "classmethod" "classmethod.__get__" x && PySem.W.fnIn K (He5.wf K (ga K d.name) "classmethod" x) else He5.wrapB K (ga K d.name) "staticmethod" "staticmethod.__get__" x && PySem.W.keepIn K (.ref (He5.wf K (ga K d.name) "staticmethod" x)) | none => false)))))))))))))
def builtL : List Str := ["isinstance", "range", "zip", "len", "int", "abs", "list", "tuple", "all", "any", "sum", "str", "bool", "dict", "enumerate", "sorted", "min", "max", "set", "type", "repr", "super", "ValueError", "LookupError", "IndexError"]
/-! exceptions -/
def xNew : Nat → String
  | 0 => "ValueError.__new__" | 1 => "LookupError.__new__" | _ => "IndexError.__new__"
def xIni : Nat → String
  | 0 => "ValueError.__init__" | 1 => "LookupError.__init__" | _ => "IndexError.__init__"
def xMro : Nat → List Value
  | 0 => [.type "ValueError", .type "Exception", .type "BaseException", .type "object"]
  | 1 => [.type "LookupError", .type "Exception", .type "BaseException", .type "object"]
  | _ => [.type "IndexError", .type "LookupError", .type "Exception", .type "BaseException", .type "object"]
/-- own classes, then a tail -/
def xTail (t : List Value) : List Value → Bool
  | .ref c :: r => xTail t r
  | l => l == t
def xIn (K : PySem.W.Frag) (C : Addr) (bmB : List Value) (newId : String) : Bool := PySem.W.excInitIn K C bmB newId
def xtA (K : PySem.W.Frag) : XT → Value
  | .own c => (match t.ex.lookup c with | some d => .ref (ga K d.name) | none => .none)
  | .blt n => .type (xbN n)
/-- its __init__'s record -/
def xiB (K : PySem.W.Frag) (f C : Addr) (file : Str) : Bool := match K.lookup f with
  | some ⟨_, _, .func fd, _⟩ => PySem.W.codeIn K fd.code fd.qualname && ((match fd.code with
    | .ref cda => (match K.lookup cda with
      | some ⟨_, _, .fields vs, _⟩ => (match (vs[2]? : Option Value) with
        | some (.str z _) => file == z
        | _ => false)
      | _ => false)
    | _ => false) && ((match fd.defaults with | .none => true | _ => false) && match fd.closure with
    | [(_, cc)] => (match K.lookup cc with
      | some ⟨_, _, .cell (some (.ref D)), _⟩ => decide (D = C)
      | _ => false)
    | _ => false))
  | _ => false
def xmB (K : PySem.W.Frag) (C : Addr) (base : Nat) (fl : Option (Nat × Str × Str)) : Bool :=
  PySem.W.keepIn K (.ref C) && (decide (PySem.W.typeIn K (.ref C) = some (.type "type")) && (xIn K C (xMro base) (xNew base) && ((match PySem.W.clsIn K C with | some cd => xTail (xMro base) cd.mro && cd.hasDict | none => false) &&
  (eqO (PySem.W.ks_superIn K C C "__init__") (some (some (.builtin (xIni base)))) && (decide (PySem.W.subIn K (.ref C) (.type (xbN base)) = some true) && (decide (PySem.W.mroIn K C (.ref C) = some true) && (eqO (PySem.W.nsIn K cStatics "thirdparty.any") (some none) &&
  (eqO (PySem.W.findIn K (.ref C) "__setattr__") (some (some (.builtin "object.__setattr__"))) && (eqO (PySem.W.findIn K (.ref C) "__init__") (some (some (.ref (ma K C "__init__")))) && (decide (PySem.W.typeIn K (.ref (ma K C "__init__")) = some (.type "function")) &&
  (xiB K (ma K C "__init__") C t.file && (eqO (PySem.W.findIn K (.ref C) "code") (some none) && (match fl with | some q => eqO (PySem.W.findIn K (.ref C) q.2.2) (some none) | none => true)))))))))))))
def xcB (K : PySem.W.Frag) (d : XcD) : Bool :=
  (He.Fa.glo d.name).ok K && (eqO (PySem.W.findIn K (.ref (ga K d.name)) "__getattribute__") (some (some (.builtin "BaseException.__getattribute__"))) && (eqO (PySem.W.findIn K (.ref (ga K d.name)) "__getattr__") (some none) && (decide (PySem.W.subIn K (.ref (ga K d.name)) (.type "BaseException") = some true) && (PySem.W.hasDictIn K (ga K d.name) &&
  (eqO (PySem.W.findIn K (.ref (ga K d.name)) "__class__") (some (some (.builtin "object.__class__"))) && (decide (PySem.W.mroIn K (ga K d.name) (.type "object") = some true) && (d.subs.all (fun q => decide (PySem.W.kitOne K (.ref (ga K d.name)) (t.xtA K q.1) = some q.2)) &&
  (match d.own with | some q => t.xmB K (ga K d.name) d.base q.2 | none => true))))))))
def glB (K : PySem.W.Frag) (x : Str) : P → Bool
  | .int i => (He.Fa.int x i).ok K
  | .str z => (He.Fa.str x z).ok K && decide (z.length ≤ 10000)
  | _ => false
def facts (K : PySem.W.Frag) : Bool :=
  eqO (PySem.W.specialIn K (.builtin "object.__class__") "__get__") (some (some (.builtin "getset_descriptor.__get__"))) && (decide (PySem.W.takesIn K (.builtin "object.__class__") = some true) &&
  (t.cl.all (fun q => (He.Fa.glo q.2.name).ok K && t.clsB K q.2) && (t.fn.all (fun q => (He.Fa.glo q.2).ok K) && (builtL.all (fun x => (He.Fa.free x).ok K) &&
  (t.gl.all (fun q => glB K q.2 ((t.gv.lookup q.1).getD .non)) && t.ex.all (fun q => t.xcB K q.2))))))
end Tab
/-! ### the Hook -/
abbrev AlH : Type := He.AlD × Bool
def obsH (n : Nat) (fn : List He5.DefA) (ex : PySem.W.Frag → Bool) (g : Addr → Option Obj) : AlH := (He5.obsA [] fn (He.frG g (He5.asA g n)), ex (He.frG g (He5.asA g n)))
def hookH (n : Nat) (fn : List He5.DefA) (ex : PySem.W.Frag → Bool) : PySem.W.Hook where
  α := AlH
  obs := fun s => obsH n fn ex s.heap.get?
  val := fun _ => (He5.valA fn, true)
  says := fun _ h => ∃ K : PySem.W.Frag, K.In h ∧ He5.SaysA [] fn K ∧ ex K = true
  of := fun _ _ e => ⟨_, He.frG_in, congrArg (fun z : AlH => z.1) e, congrArg (fun z : AlH => z.2) e⟩
  keeps := fun _ _ _ ⟨K, hK, c⟩ k => ⟨K, PySem.W.Frag.In.keeps hK k, c⟩
theorem obsH_eq {n : Nat} {fn : List He5.DefA} {ex : PySem.W.Frag → Bool} {g : Addr → Option Obj} {s : Shared} (h : ∀ a, g a = s.heap.get? a) : obsH n fn ex g = (hookH n fn ex).obs s := by
  have e : g = s.heap.get? := funext h
  rw [e] <;> rfl
/-! ### the Hook, with exceptions' own __init__ -/
abbrev XiW : Type := Option (Arguments × FuncBody × Scope × Addr × List Str × Addr)
def xiA (K : PySem.W.Frag) (a : Addr) : XiW := match K.lookup a with
  | some ⟨_, _, .func fd, _⟩ => some (fd.params, fd.body, fd.scope, fd.globals, fd.closure.map (·.1), fd.builtins)
  | _ => none
structure XiA where
  cls : Str
  params : Arguments
  body : List Stmt
  scope : Scope
def XiA.val (d : XiA) : XiW := some (d.params, .stmts d.body, d.scope, mainGlobals, ["__class__"], builtinsNs)
def XiA.at_ (d : XiA) (K : PySem.W.Frag) : XiW := xiA K (ma K (ga K d.cls) "__init__")
abbrev AlX : Type := AlH × List XiW
def obsX (n : Nat) (fn : List He5.DefA) (xl : List XiA) (ex : PySem.W.Frag → Bool) (g : Addr → Option Obj) : AlX := (obsH n fn ex g, xl.map fun d => d.at_ (He.frG g (He5.asA g n)))
def SaysX (xl : List XiA) (K : PySem.W.Frag) : Prop := xl.map (fun d => d.at_ K) = xl.map XiA.val
def hookX (n : Nat) (fn : List He5.DefA) (xl : List XiA) (ex : PySem.W.Frag → Bool) : PySem.W.Hook where
  α := AlX
  obs := fun s => obsX n fn xl ex s.heap.get?
  val := fun _ => ((He5.valA fn, true), xl.map XiA.val)
  says := fun _ h => ∃ K : PySem.W.Frag, K.In h ∧ He5.SaysA [] fn K ∧ ex K = true ∧ SaysX xl K
  of := fun _ _ e => ⟨_, He.frG_in, congrArg (fun z : AlX => z.1.1) e, congrArg (fun z : AlX => z.1.2) e, congrArg (fun z : AlX => z.2) e⟩
  keeps := fun _ _ _ ⟨K, hK, c⟩ k => ⟨K, PySem.W.Frag.In.keeps hK k, c⟩
theorem obsX_eq {n : Nat} {fn : List He5.DefA} {xl : List XiA} {ex : PySem.W.Frag → Bool} {g : Addr → Option Obj} {s : Shared} (h : ∀ a, g a = s.heap.get? a) : obsX n fn xl ex g = (hookX n fn xl ex).obs s := by
  have e : g = s.heap.get? := funext h
  rw [e] <;> rfl
end Dn

/-! Dn, part T: defs that many laws share, copied. -/
noncomputable section
namespace Dn
/-! Table.__init__ -/
def B_Table_dd__init_dd__0 : RB := .cons (.iset (.fld (.var 0) 3) (.var 4) (.bcl .tuple (.cons (.ix (.var 3) (.var 4)) .nil))) .nil
def B_Table_dd__init_dd__1 : RB := .cons .wall .nil
def B_Table_dd__init_dd__2 : RB := .cons (.ite (.not (.call 37 (.cons (.ix (.var 3) (.var 4)) (.cons (.bin .mul (.lst false (.cons (.ix (.fld (.var 0) 4) (.meth (.var 1) 0 (.cons (.var 4) .nil))) .nil)) (.bcl .len (.cons (.call 38 (.cons (.var 7) .nil)) .nil))) .nil)))) B_Table_dd__init_dd__1 .nil) B_Table_dd__init_dd__0
def B_Table_dd__init_dd__3 : RB := .cons (.set 7 (.meth (.var 0) 11 (.cons (.var 4) .nil))) B_Table_dd__init_dd__2
def B_Table_dd__init_dd__4 : RB := .cons (.forr (.nm 4) (.seq (.var 6)) B_Table_dd__init_dd__3) .nil
def B_Table_dd__init_dd__5 : RB := .cons (.fset (.var 0) 5 (.lc2 false (.tup (.cons (.var 8) (.cons (.var 9) .nil))) (.nm 8) (.seq (.var 5)) .none (.nm 9) (.rng (.ix (.fld (.var 0) 4) (.var 8))) .none [8, 9] [9])) B_Table_dd__init_dd__4
def B_Table_dd__init_dd__6 : RB := .cons (.fset (.var 0) 3 (.dnew false)) B_Table_dd__init_dd__5
def B_Table_dd__init_dd__7 : RB := .cons (.fset (.var 0) 4 (.dzip (.var 5) (.var 2))) B_Table_dd__init_dd__6
def B_Table_dd__init_dd__8 : RB := .cons (.fset (.var 0) 6 (.bcl .tuple (.cons (.var 2) .nil))) B_Table_dd__init_dd__7
def B_Table_dd__init_dd__9 : RB := .cons (.fset (.var 0) 7 (.var 1)) B_Table_dd__init_dd__8
def B_Table_dd__init_dd__10 : RB := .cons .wall .nil
def B_Table_dd__init_dd__11 : RB := .cons (.ite (.or (.not (.isi (.var 3) true [.dict])) (.cmp .ne (.bcl .sorted (.cons (.var 3) .nil)) (.bcl .sorted (.cons (.var 6) .nil)))) B_Table_dd__init_dd__10 .nil) B_Table_dd__init_dd__9
def B_Table_dd__init_dd__12 : RB := .cons .wall .nil
def B_Table_dd__init_dd__13 : RB := .cons (.ite (.not (.bcl .all (.cons (.lc false (.and (.call 0 (.cons (.var 10) .nil)) (.cmp2 .le .le (.cst (.int 1)) (.var 10) (.ccon 1 2))) (.nm 10) (.seq (.var 2)) .none [10]) .nil))) B_Table_dd__init_dd__12 .nil) B_Table_dd__init_dd__11
def B_Table_dd__init_dd__14 : RB := .cons .wall .nil
def B_Table_dd__init_dd__15 : RB := .cons (.ite (.or (.not (.call 26 (.cons (.var 2) .nil))) (.cmp .ne (.bcl .len (.cons (.var 2) .nil)) (.bcl .len (.cons (.var 5) .nil)))) B_Table_dd__init_dd__14 .nil) B_Table_dd__init_dd__13
def B_Table_dd__init_dd__16 : RB := .cons (.par [5, 6] (.cons (.meth (.var 1) 4 .nil) (.cons (.meth (.var 1) 2 .nil) .nil))) B_Table_dd__init_dd__15
def D_Table_dd__init_dd_ : FD := ⟨4, 11, [], false, B_Table_dd__init_dd__16⟩
/-! Table.__len__ -/
def B_Table_dd__len_dd__0 : RB := .cons (.ret (.bcl .len (.cons (.fld (.var 0) 5) .nil))) .nil
def D_Table_dd__len_dd_ : FD := ⟨1, 1, [], false, B_Table_dd__len_dd__0⟩
/-! Table.__repr__ -/
def B_Table_dd__repr_dd__0 : RB := .cons (.ret (.fstr (.cons (.cst (.str "Table(")) (.cons (.fmt (.bcl .len (.cons (.fld (.var 0) 5) .nil))) (.cons (.cst (.str " places)")) .nil))))) .nil
def D_Table_dd__repr_dd_ : FD := ⟨1, 1, [], false, B_Table_dd__repr_dd__0⟩
/-! Table.__eq__ -/
def B_Table_dd__eq_dd__0 : RB := .cons (.ret (.and (.cmp .eq (.fld (.var 0) 6) (.fld (.var 1) 6)) (.cmp .eq (.fld (.var 0) 3) (.fld (.var 1) 3)))) .nil
def B_Table_dd__eq_dd__1 : RB := .cons (.ret (.cst (.bl false))) .nil
def B_Table_dd__eq_dd__2 : RB := .cons (.ite (.or (.not (.isi (.var 1) true [(.own 1)])) (.cmp .ne (.fld (.var 0) 7) (.fld (.var 1) 7))) B_Table_dd__eq_dd__1 .nil) B_Table_dd__eq_dd__0
def D_Table_dd__eq_dd_ : FD := ⟨2, 2, [], false, B_Table_dd__eq_dd__2⟩
/-! Signature.__init__ -/
def B_Signature_dd__init_dd__0 : RB := .cons (.fset (.var 0) 0 (.dcm false (.var 3) (.tup (.cons (.var 4) (.cons (.var 5) .nil))) (.tp (.cons (.nm 3) (.cons (.nm 4) (.cons (.nm 5) .nil)))) (.seq (.var 2)) .none [3, 4, 5])) .nil
def B_Signature_dd__init_dd__1 : RB := .cons (.fset (.var 0) 1 (.bcl .tuple (.cons (.var 2) .nil))) B_Signature_dd__init_dd__0
def B_Signature_dd__init_dd__2 : RB := .cons (.fset (.var 0) 2 (.bcl .tuple (.cons (.var 1) .nil))) B_Signature_dd__init_dd__1
def B_Signature_dd__init_dd__3 : RB := .cons .wall .nil
def B_Signature_dd__init_dd__4 : RB := .cons (.ite (.not (.call 24 (.cons (.lc false (.ix (.var 6) (.cst (.int 0))) (.nm 6) (.seq (.var 2)) .none [6]) .nil))) B_Signature_dd__init_dd__3 .nil) B_Signature_dd__init_dd__2
def B_Signature_dd__init_dd__5 : RB := .cons .wall .nil
def B_Signature_dd__init_dd__6 : RB := .cons (.ite (.not (.bcl .all (.cons (.lc false (.call 25 (.cons (.var 6) (.cons (.var 1) .nil))) (.nm 6) (.seq (.var 2)) .none [6]) .nil))) B_Signature_dd__init_dd__5 .nil) B_Signature_dd__init_dd__4
def B_Signature_dd__init_dd__7 : RB := .cons .wall .nil
def B_Signature_dd__init_dd__8 : RB := .cons (.ite (.or (.not (.call 26 (.cons (.var 2) .nil))) (.not (.cmp2 .le .le (.cst (.int 1)) (.bcl .len (.cons (.var 2) .nil)) (.ccon 0 0)))) B_Signature_dd__init_dd__7 .nil) B_Signature_dd__init_dd__6
def B_Signature_dd__init_dd__9 : RB := .cons .wall .nil
def B_Signature_dd__init_dd__10 : RB := .cons (.ite (.or (.not (.bcl .all (.cons (.lc false (.call 1 (.cons (.var 7) .nil)) (.nm 7) (.seq (.var 1)) .none [7]) .nil))) (.not (.call 24 (.cons (.var 1) .nil)))) B_Signature_dd__init_dd__9 .nil) B_Signature_dd__init_dd__8
def B_Signature_dd__init_dd__11 : RB := .cons .wall .nil
def B_Signature_dd__init_dd__12 : RB := .cons (.ite (.or (.not (.call 26 (.cons (.var 1) .nil))) (.not (.cmp2 .le .le (.cst (.int 1)) (.bcl .len (.cons (.var 1) .nil)) (.ccon 0 1)))) B_Signature_dd__init_dd__11 .nil) B_Signature_dd__init_dd__10
def D_Signature_dd__init_dd_ : FD := ⟨3, 8, [], false, B_Signature_dd__init_dd__12⟩
/-! Signature.__len__ -/
def B_Signature_dd__len_dd__0 : RB := .cons (.ret (.bcl .len (.cons (.fld (.var 0) 1) .nil))) .nil
def D_Signature_dd__len_dd_ : FD := ⟨1, 1, [], false, B_Signature_dd__len_dd__0⟩
/-! Signature.__repr__ -/
def B_Signature_dd__repr_dd__0 : RB := .cons (.ret (.fstr (.cons (.cst (.str "Signature(")) (.cons (.fmt (.bcl .len (.cons (.fld (.var 0) 2) .nil))) (.cons (.cst (.str " sorts, ")) (.cons (.fmt (.bcl .len (.cons (.fld (.var 0) 1) .nil))) (.cons (.cst (.str " operations)")) .nil))))))) .nil
def D_Signature_dd__repr_dd_ : FD := ⟨1, 1, [], false, B_Signature_dd__repr_dd__0⟩
/-! Signature.__contains__ -/
def B_Signature_dd__contains_dd__0 : RB := .cons (.ret (.and (.isi (.var 1) true [.str]) (.cmp .inn (.var 1) (.fld (.var 0) 0)))) .nil
def D_Signature_dd__contains_dd_ : FD := ⟨2, 2, [], false, B_Signature_dd__contains_dd__0⟩
/-! Signature.__eq__ -/
def B_Signature_dd__eq_dd__0 : RB := .cons (.ret (.and (.cmp .eq (.fld (.var 0) 2) (.fld (.var 1) 2)) (.cmp .eq (.fld (.var 0) 1) (.fld (.var 1) 1)))) .nil
def B_Signature_dd__eq_dd__1 : RB := .cons (.ret (.cst (.bl false))) .nil
def B_Signature_dd__eq_dd__2 : RB := .cons (.ite (.not (.isi (.var 1) true [(.own 0)])) B_Signature_dd__eq_dd__1 .nil) B_Signature_dd__eq_dd__0
def D_Signature_dd__eq_dd_ : FD := ⟨2, 2, [], false, B_Signature_dd__eq_dd__2⟩
/-! _law_unlike_tables -/
def B__law_unlike_tables_0 : RB := .cons (.ret (.cmp .eq (.cmp .eq (.frz (.make 1 (.cons (.call 13 (.cons (.var 1) .nil)) (.cons (.ix (.var 2) (.cst (.int 0))) (.cons (.var 8) .nil))))) (.var 3)) (.cmp .eq (.var 9) (.cst (.int 1))))) .nil
def B__law_unlike_tables_1 : RB := .cons (.iset (.var 5) (.var 6) (.bin .mod (.bcl .int (.cons (.bin .add (.ix (.var 5) (.var 6)) (.cst (.int 1))) .nil)) (.var 9))) B__law_unlike_tables_0
def B__law_unlike_tables_2 : RB := .cons (.set 6 (.bin .mod (.bcl .int (.cons (.var 6) .nil)) (.bcl .len (.cons (.var 5) .nil)))) B__law_unlike_tables_1
def B__law_unlike_tables_3 : RB := .cons (.set 5 (.ix (.var 8) (.var 7))) B__law_unlike_tables_2
def B__law_unlike_tables_4 : RB := .cons (.par [8, 9] (.cons (.call 88 (.cons (.ix (.var 2) (.cst (.int 1))) .nil)) (.cons (.call 86 (.cons (.var 1) (.cons (.var 2) (.cons (.ix (.call 87 (.cons (.var 1) (.cons (.var 7) .nil))) (.cst (.int 2))) .nil)))) .nil))) B__law_unlike_tables_3
def B__law_unlike_tables_5 : RB := .cons (.par [7, 6] (.cons (.ix (.call 4 (.cons (.var 0) (.cons (.ix (.var 1) (.cst (.int 1))) .nil))) (.cst (.int 0))) (.cons (.call 3 (.cons (.var 0) (.cons (.cst (.int 64)) .nil))) .nil))) B__law_unlike_tables_4
def B__law_unlike_tables_6 : RB := .cons (.ret (.cst (.bl false))) .nil
def B__law_unlike_tables_7 : RB := .cons (.ite (.cmp .eq (.var 3) (.frz (.make 1 (.cons (.call 13 (.cons (.call 89 (.cons (.var 1) .nil)) .nil)) (.cons (.ix (.var 2) (.cst (.int 0))) (.cons (.ix (.var 2) (.cst (.int 1))) .nil)))))) B__law_unlike_tables_6 .nil) B__law_unlike_tables_5
def B__law_unlike_tables_8 : RB := .cons (.ret (.cst (.bl false))) .nil
def B__law_unlike_tables_9 : RB := .cons (.ite (.or (.cmp .ne (.var 4) (.var 3)) (.or (.cmp .eq (.var 3) (.var 2)) (.cmp .ne (.prop (.var 3) 25) (.call 13 (.cons (.var 1) .nil))))) B__law_unlike_tables_8 .nil) B__law_unlike_tables_7
def B__law_unlike_tables_10 : RB := .cons (.set 4 (.frz (.make 1 (.cons (.call 13 (.cons (.var 1) .nil)) (.cons (.bcl .tuple (.cons (.ix (.var 2) (.cst (.int 0))) .nil)) (.cons (.call 91 (.cons (.ix (.var 2) (.cst (.int 1))) .nil)) .nil)))))) B__law_unlike_tables_9
def D__law_unlike_tables : FD := ⟨4, 10, [], false, B__law_unlike_tables_10⟩
/-! _law_same -/
def B__law_same_0 : RB := .cons (.ret (.and (.cmp .eq (.isi (.var 1) true [.str]) (.isi (.var 0) true [.str])) (.cmp .eq (.var 0) (.var 1)))) .nil
def B__law_same_1 : RB := .cons (.ret (.cst (.bl false))) .nil
def B__law_same_2 : RB := .cons (.ite (.cmp .ne (.isi (.var 1) true [.int]) (.isi (.var 0) true [.int])) B__law_same_1 .nil) B__law_same_0
def B__law_same_3 : RB := .cons (.ret (.bcl .all (.cons (.lc false (.call 5 (.cons (.var 2) (.cons (.var 3) .nil))) (.tp (.cons (.nm 2) (.cons (.nm 3) .nil))) (.zip (.cons (.var 0) (.cons (.var 1) .nil))) .none [2, 3]) .nil))) .nil
def B__law_same_4 : RB := .cons (.ret (.cst (.bl false))) .nil
def B__law_same_5 : RB := .cons (.ite (.or (.cmp .ne (.isi (.var 1) true [.tuple]) (.isi (.var 0) true [.tuple])) (.cmp .ne (.bcl .len (.cons (.var 0) .nil)) (.bcl .len (.cons (.var 1) .nil)))) B__law_same_4 .nil) B__law_same_3
def B__law_same_6 : RB := .cons (.ret (.cst (.bl false))) .nil
def B__law_same_7 : RB := .cons (.ite (.cmp .ne (.isi (.var 1) true [.list]) (.isi (.var 0) true [.list])) B__law_same_6 .nil) B__law_same_5
def B__law_same_8 : RB := .cons (.ite (.or (.isi (.var 1) false [.list, .tuple]) (.isi (.var 0) false [.list, .tuple])) B__law_same_7 .nil) B__law_same_2
def B__law_same_9 : RB := .cons (.ret (.and (.isi (.var 1) true [.bool]) (.and (.isi (.var 0) true [.bool]) (.cmp .eq (.var 0) (.var 1))))) .nil
def B__law_same_10 : RB := .cons (.ite (.or (.isi (.var 1) true [.bool]) (.isi (.var 0) true [.bool])) B__law_same_9 .nil) B__law_same_8
def B__law_same_11 : RB := .cons (.ret (.and (.cmp .isn (.var 1) (.cst .non)) (.cmp .isn (.var 0) (.cst .non)))) .nil
def B__law_same_12 : RB := .cons (.ite (.or (.cmp .isn (.var 1) (.cst .non)) (.cmp .isn (.var 0) (.cst .non))) B__law_same_11 .nil) B__law_same_10
def D__law_same : FD := ⟨2, 4, [], false, B__law_same_12⟩
/-! Table.entries -/
def B_Table_entries_0 : RB := .cons (.ret (.bcl .list (.cons (.ix (.fld (.var 0) 3) (.var 1)) .nil))) .nil
def B_Table_entries_1 : RB := .cons (.ex (.meth (.fld (.var 0) 7) 8 (.cons (.var 1) .nil))) B_Table_entries_0
def D_Table_entries : FD := ⟨2, 2, [], false, B_Table_entries_1⟩
/-! _law_entry_asked -/
def B__law_entry_asked_0 : RB := .cons (.ret (.meth (.var 0) 12 (.cons (.var 1) (.cons (.ix (.var 2) (.cst (.int 0))) (.cons (.ix (.var 2) (.cst (.int 1))) (.cons (.ix (.var 2) (.cst (.int 2))) (.cons (.ix (.var 2) (.cst (.int 3))) .nil))))))) .nil
def B__law_entry_asked_1 : RB := .cons (.ret (.meth (.var 0) 12 (.cons (.var 1) (.cons (.ix (.var 2) (.cst (.int 0))) (.cons (.ix (.var 2) (.cst (.int 1))) (.cons (.ix (.var 2) (.cst (.int 2))) .nil)))))) .nil
def B__law_entry_asked_2 : RB := .cons (.ite (.cmp .eq (.bcl .len (.cons (.var 2) .nil)) (.cst (.int 3))) B__law_entry_asked_1 .nil) B__law_entry_asked_0
def B__law_entry_asked_3 : RB := .cons (.ret (.meth (.var 0) 12 (.cons (.var 1) (.cons (.ix (.var 2) (.cst (.int 0))) (.cons (.ix (.var 2) (.cst (.int 1))) .nil))))) .nil
def B__law_entry_asked_4 : RB := .cons (.ite (.cmp .eq (.bcl .len (.cons (.var 2) .nil)) (.cst (.int 2))) B__law_entry_asked_3 .nil) B__law_entry_asked_2
def B__law_entry_asked_5 : RB := .cons (.ret (.meth (.var 0) 12 (.cons (.var 1) (.cons (.ix (.var 2) (.cst (.int 0))) .nil)))) .nil
def B__law_entry_asked_6 : RB := .cons (.ite (.cmp .eq (.bcl .len (.cons (.var 2) .nil)) (.cst (.int 1))) B__law_entry_asked_5 .nil) B__law_entry_asked_4
def B__law_entry_asked_7 : RB := .cons (.ret (.meth (.var 0) 12 (.cons (.var 1) .nil))) .nil
def B__law_entry_asked_8 : RB := .cons (.ite (.cmp .eq (.bcl .len (.cons (.var 2) .nil)) (.cst (.int 0))) B__law_entry_asked_7 .nil) B__law_entry_asked_6
def D__law_entry_asked : FD := ⟨3, 3, [], false, B__law_entry_asked_8⟩
/-! _law_lists -/
def B__law_lists_0 : RB := .cons (.ret (.call 92 (.cons (.lc false (.call 86 (.cons (.var 0) (.cons (.var 1) (.cons (.var 3) .nil)))) (.nm 3) (.seq (.ix (.call 87 (.cons (.var 0) (.cons (.var 2) .nil))) (.cst (.int 1)))) .none [3]) .nil))) .nil
def D__law_lists : FD := ⟨3, 4, [], false, B__law_lists_0⟩
/-! Table.size -/
def B_Table_size_0 : RB := .cons (.ret (.ix (.fld (.var 0) 4) (.var 1))) .nil
def B_Table_size_1 : RB := .cons .wall .nil
def B_Table_size_2 : RB := .cons (.ite (.or (.not (.isi (.var 1) true [.str])) (.cmp .nin (.var 1) (.fld (.var 0) 4))) B_Table_size_1 .nil) B_Table_size_0
def D_Table_size : FD := ⟨2, 2, [], false, B_Table_size_2⟩
/-! Table.places -/
def B_Table_places_0 : RB := .cons (.ret (.bcl .list (.cons (.fld (.var 0) 5) .nil))) .nil
def D_Table_places : FD := ⟨1, 1, [], false, B_Table_places_0⟩
/-! Table.sizes -/
def B_Table_sizes_0 : RB := .cons (.ret (.bcl .list (.cons (.fld (.var 0) 6) .nil))) .nil
def D_Table_sizes : FD := ⟨1, 1, [], false, B_Table_sizes_0⟩
/-! _law_places -/
def B__law_places_0 : RB := .cons (.ret (.var 2)) .nil
def B__law_places_1 : RB := .cons (.set 2 (.bin .add (.var 2) (.lc false (.tup (.cons (.var 3) (.cons (.var 5) .nil))) (.nm 5) (.rng (.var 4)) .none [5]))) .nil
def B__law_places_2 : RB := .cons (.forr (.tp (.cons (.nm 3) (.cons (.nm 4) .nil))) (.zip (.cons (.ix (.var 0) (.cst (.int 0))) (.cons (.ix (.var 1) (.cst (.int 0))) .nil))) B__law_places_1) B__law_places_0
def B__law_places_3 : RB := .cons (.set 2 (.lst false .nil)) B__law_places_2
def D__law_places : FD := ⟨2, 6, [], false, B__law_places_3⟩
/-! Table.entries! -/
def B_Table_entriesM_0 : RB := .cons (.ret (.bcl .listM (.cons (.ix (.fld (.var 0) 3) (.var 1)) .nil))) .nil
def B_Table_entriesM_1 : RB := .cons (.ex (.meth (.fld (.var 0) 7) 8 (.cons (.var 1) .nil))) B_Table_entriesM_0
def D_Table_entriesM : FD := ⟨2, 2, [], false, B_Table_entriesM_1⟩
/-! Table.places! -/
def B_Table_placesM_0 : RB := .cons (.ret (.bcl .listM (.cons (.fld (.var 0) 5) .nil))) .nil
def D_Table_placesM : FD := ⟨1, 1, [], false, B_Table_placesM_0⟩
/-! Table.sizes! -/
def B_Table_sizesM_0 : RB := .cons (.ret (.bcl .listM (.cons (.fld (.var 0) 6) .nil))) .nil
def D_Table_sizesM : FD := ⟨1, 1, [], false, B_Table_sizesM_0⟩
/-! _law_sig -/
def B__law_sig_0 : RB := .cons (.ret (.frz (.make 0 (.cons (.bcl .list (.cons (.ix (.var 0) (.cst (.int 0))) .nil)) (.cons (.bcl .list (.cons (.ix (.var 0) (.cst (.int 1))) .nil)) .nil))))) .nil
def D__law_sig : FD := ⟨1, 1, [], false, B__law_sig_0⟩
/-! _law_given -/
def B__law_given_0 : RB := .cons (.ret (.frz (.var 3))) .nil
def B__law_given_1 : RB := .cons (.iset (.var 3) (.var 4) (.bcl .list (.cons (.ix (.ix (.var 2) (.cst (.int 1))) (.var 4)) .nil))) .nil
def B__law_given_2 : RB := .cons (.forr (.nm 4) (.seq (.call 93 (.cons (.var 0) (.cons (.lc false (.ix (.var 5) (.cst (.int 0))) (.nm 5) (.seq (.ix (.var 1) (.cst (.int 1)))) .none [5]) .nil)))) B__law_given_1) B__law_given_0
def B__law_given_3 : RB := .cons (.set 3 (.dnew false)) B__law_given_2
def D__law_given : FD := ⟨3, 6, [], false, B__law_given_3⟩
/-! _law_wide_table -/
def B__law_wide_table_0 : RB := .cons (.ret (.lst false (.cons (.var 1) (.cons (.lst false (.cons (.var 2) (.cons (.call 94 (.cons (.var 0) (.cons (.var 1) (.cons (.var 2) .nil)))) .nil))) .nil)))) .nil
def B__law_wide_table_1 : RB := .cons (.set 2 (.lc false (.bcl .min (.cons (.cst (.int 3)) (.cons (.var 3) .nil))) (.nm 3) (.seq (.var 2)) .none [3])) .nil
def B__law_wide_table_2 : RB := .cons (.ite (.cmp .ne (.lc false (.cst (.int 1)) (.nm 4) (.seq (.ix (.var 1) (.cst (.int 1)))) (.some (.cmp .eq (.bcl .len (.cons (.ix (.var 4) (.cst (.int 1))) .nil)) (.cst (.int 3)))) [4]) (.lst false .nil)) B__law_wide_table_1 .nil) B__law_wide_table_0
def B__law_wide_table_3 : RB := .cons (.set 2 (.lc false (.bin .add (.cst (.int 1)) (.call 3 (.cons (.var 0) (.cons (.cst (.int 4)) .nil)))) (.nm 3) (.seq (.ix (.var 1) (.cst (.int 0)))) .none [3])) B__law_wide_table_2
def B__law_wide_table_4 : RB := .cons (.set 1 (.call 23 (.cons (.var 0) .nil))) B__law_wide_table_3
def D__law_wide_table : FD := ⟨1, 5, [], false, B__law_wide_table_4⟩
/-! _law_bag -/
def B__law_bag_0 : RB := .cons (.ret (.lst true (.cons (.bcl .list (.cons (.sl (.var 0) .none (.some (.cst (.int 63)))) .nil)) (.cons (.cst (.int 0)) (.cons (.cst (.int 0)) (.cons (.cst (.int 4914)) (.cons (.cst (.int 0)) .nil))))))) .nil
def D__law_bag : FD := ⟨1, 1, [], false, B__law_bag_0⟩
/-! are_below -/
def B_are_below_0 : RB := .cons (.ret (.bcl .all (.cons (.lc false (.call 40 (.cons (.var 2) (.cons (.var 3) .nil))) (.tp (.cons (.nm 2) (.cons (.nm 3) .nil))) (.zip (.cons (.var 0) (.cons (.var 1) .nil))) .none [2, 3]) .nil))) .nil
def B_are_below_1 : RB := .cons (.ret (.cst (.bl false))) .nil
def B_are_below_2 : RB := .cons (.ite (.or (.not (.call 26 (.cons (.var 0) .nil))) (.cmp .ne (.bcl .len (.cons (.var 0) .nil)) (.bcl .len (.cons (.var 1) .nil)))) B_are_below_1 .nil) B_are_below_0
def D_are_below : FD := ⟨2, 4, [], false, B_are_below_2⟩
/-! Signature.result -/
def B_Signature_result_0 : RB := .cons (.ret (.ix (.ix (.fld (.var 0) 0) (.var 1)) (.cst (.int 1)))) .nil
def B_Signature_result_1 : RB := .cons (.ex (.meth (.var 0) 8 (.cons (.var 1) .nil))) B_Signature_result_0
def D_Signature_result : FD := ⟨2, 2, [], false, B_Signature_result_1⟩
/-! tuples_of -/
def B_tuples_of_0 : RB := .cons (.ret (.var 1)) .nil
def B_tuples_of_1 : RB := .cons (.set 1 (.lc2 false (.tup (.star (.var 3) (.cons (.var 4) .nil))) (.nm 3) (.seq (.var 1)) .none (.nm 4) (.rng (.var 2)) .none [3, 4] [4])) .nil
def B_tuples_of_2 : RB := .cons (.forr (.nm 2) (.seq (.var 0)) B_tuples_of_1) B_tuples_of_0
def B_tuples_of_3 : RB := .cons (.set 1 (.lst false (.cons (.tup .nil) .nil))) B_tuples_of_2
def D_tuples_of : FD := ⟨1, 5, [], false, B_tuples_of_3⟩
/-! Table.counts -/
def B_Table_counts_0 : RB := .cons (.ret (.lc false (.ix (.fld (.var 0) 4) (.var 2)) (.nm 2) (.seq (.meth (.fld (.var 0) 7) 1 (.cons (.var 1) .nil))) .none [2])) .nil
def D_Table_counts : FD := ⟨2, 3, [], false, B_Table_counts_0⟩
/-! is_number -/
def B_is_number_0 : RB := .cons (.ret (.and (.isi (.var 0) true [.int]) (.not (.isi (.var 0) true [.bool])))) .nil
def D_is_number : FD := ⟨1, 1, [], false, B_is_number_0⟩
/-! is_listed -/
def B_is_listed_0 : RB := .cons (.ret (.isi (.var 0) false [.list, .tuple])) .nil
def D_is_listed : FD := ⟨1, 1, [], false, B_is_listed_0⟩
/-! Signature.names -/
def B_Signature_names_0 : RB := .cons (.ret (.bcl .list (.cons (.fld (.var 0) 0) .nil))) .nil
def D_Signature_names : FD := ⟨1, 1, [], false, B_Signature_names_0⟩
/-! Signature.sorts -/
def B_Signature_sorts_0 : RB := .cons (.ret (.bcl .list (.cons (.fld (.var 0) 2) .nil))) .nil
def D_Signature_sorts : FD := ⟨1, 1, [], false, B_Signature_sorts_0⟩
/-! are_different -/
def B_are_different_0 : RB := .cons (.ret (.not (.bcl .any (.cons (.lc false (.cmp .inn (.var 2) (.sl (.var 0) .none (.some (.var 1)))) (.tp (.cons (.nm 1) (.cons (.nm 2) .nil))) (.enum (.var 0)) .none [1, 2]) .nil)))) .nil
def D_are_different : FD := ⟨1, 3, [], false, B_are_different_0⟩
/-! is_operation -/
def B_is_operation_0 : RB := .cons (.ret (.and (.cmp .le (.bcl .len (.cons (.ix (.var 0) (.cst (.int 1))) .nil)) (.glo 2)) (.call 28 (.cons (.lst false (.star (.ix (.var 0) (.cst (.int 1))) (.cons (.ix (.var 0) (.cst (.int 2))) .nil))) (.cons (.var 1) .nil))))) .nil
def B_is_operation_1 : RB := .cons (.ret (.cst (.bl false))) .nil
def B_is_operation_2 : RB := .cons (.ite (.or (.not (.isi (.var 0) true [.tuple])) (.or (.cmp .ne (.bcl .len (.cons (.var 0) .nil)) (.cst (.int 3))) (.or (.not (.call 1 (.cons (.ix (.var 0) (.cst (.int 0))) .nil))) (.not (.isi (.ix (.var 0) (.cst (.int 1))) true [.tuple]))))) B_is_operation_1 .nil) B_is_operation_0
def D_is_operation : FD := ⟨2, 2, [], false, B_is_operation_2⟩
/-! is_name -/
def B_is_name_0 : RB := .cons (.ret (.bcl .all (.cons (.lc false (.cmp .inn (.var 1) (.glo 0)) (.nm 1) (.seq (.var 0)) .none [1]) .nil))) .nil
def B_is_name_1 : RB := .cons (.ret (.cst (.bl false))) .nil
def B_is_name_2 : RB := .cons (.ite (.or (.not (.isi (.var 0) true [.str])) (.not (.cmp2 .le .le (.cst (.int 1)) (.bcl .len (.cons (.var 0) .nil)) (.glo 1)))) B_is_name_1 .nil) B_is_name_0
def D_is_name : FD := ⟨1, 2, [], false, B_is_name_2⟩
/-! _law_size -/
def B__law_size_0 : RB := .cons (.ret (.ix (.ix (.var 1) (.cst (.int 0))) (.bmt .index (.ix (.var 0) (.cst (.int 0))) (.cons (.var 2) .nil)))) .nil
def D__law_size : FD := ⟨3, 3, [], false, B__law_size_0⟩
/-! _law_op -/
def B__law_op_0 : RB := .cons (.ret (.ix (.lc false (.var 2) (.nm 2) (.seq (.ix (.var 0) (.cst (.int 1)))) (.some (.cmp .eq (.ix (.var 2) (.cst (.int 0))) (.var 1))) [2]) (.cst (.int 0)))) .nil
def D__law_op : FD := ⟨2, 3, [], false, B__law_op_0⟩
/-! _law_rows_copied -/
def B__law_rows_copied_0 : RB := .cons (.ret (.frz (.var 1))) .nil
def B__law_rows_copied_1 : RB := .cons (.iset (.var 1) (.var 2) (.bcl .list (.cons (.ix (.var 0) (.var 2)) .nil))) .nil
def B__law_rows_copied_2 : RB := .cons (.forr (.nm 2) (.keys (.var 0)) B__law_rows_copied_1) B__law_rows_copied_0
def B__law_rows_copied_3 : RB := .cons (.set 1 (.dnew false)) B__law_rows_copied_2
def D__law_rows_copied : FD := ⟨1, 3, [], false, B__law_rows_copied_3⟩
/-! _law_pull -/
def B__law_pull_0 : RB := .cons (.ret (.bin .mod (.bcl .int (.cons (.bin .add (.bin .fdiv (.ix (.var 0) (.cst (.int 3))) (.cst (.int 83))) (.bin .mul (.bin .mod (.bcl .int (.cons (.ix (.var 0) (.cst (.int 3))) .nil)) (.cst (.int 8111))) (.cst (.int 73)))) .nil)) (.var 1))) .nil
def B__law_pull_1 : RB := .cons (.iset (.var 0) (.cst (.int 3)) (.bin .mod (.bcl .int (.cons (.bin .add (.bin .mul (.bin .mul (.var 2) (.var 2)) (.cst (.int 11))) (.var 3)) .nil)) (.cst (.int 2147483587)))) B__law_pull_0
def B__law_pull_2 : RB := .cons (.set 3 (.bin .add (.bin .add (.bin .mul (.var 2) (.cst (.int 48731))) (.bin .mul (.ix (.var 0) (.cst (.int 4))) (.cst (.int 131071)))) (.cst (.int 77003)))) B__law_pull_1
def B__law_pull_3 : RB := .cons (.set 2 (.ix (.var 0) (.cst (.int 3)))) B__law_pull_2
def B__law_pull_4 : RB := .cons (.ret (.var 5)) .nil
def B__law_pull_5 : RB := .cons (.iset (.var 0) (.cst (.int 2)) (.bin .fdiv (.ix (.var 0) (.cst (.int 2))) (.var 1))) B__law_pull_4
def B__law_pull_6 : RB := .cons (.set 5 (.bin .mod (.bcl .int (.cons (.ix (.var 0) (.cst (.int 2))) .nil)) (.var 1))) B__law_pull_5
def B__law_pull_7 : RB := .cons (.ite (.cmp .gt (.ix (.var 0) (.cst (.int 2))) (.cst (.int 0))) B__law_pull_6 .nil) B__law_pull_3
def B__law_pull_8 : RB := .cons (.iset (.var 0) (.cst (.int 2)) (.bcl .abs (.cons (.var 4) .nil))) .nil
def B__law_pull_9 : RB := .cons (.iset (.var 0) (.cst (.int 3)) (.bin .mod (.bcl .int (.cons (.bin .add (.bin .mul (.ix (.var 0) (.cst (.int 3))) (.cst (.int 40009))) (.var 6)) .nil)) (.cst (.int 2147483587)))) .nil
def B__law_pull_10 : RB := .cons (.set 6 (.bin .add (.bin .mul (.bin .mod (.bcl .int (.cons (.var 4) .nil)) (.cst (.int 998244353))) (.cst (.int 30011))) (.cst (.int 59)))) B__law_pull_9
def B__law_pull_11 : RB := .cons (.ite (.cmp .ge (.bcl .abs (.cons (.var 4) .nil)) (.bin .pow (.cst (.int 10)) (.cst (.int 18)))) B__law_pull_8 B__law_pull_10) .nil
def B__law_pull_12 : RB := .cons (.iset (.var 0) (.cst (.int 1)) (.bin .add (.ix (.var 0) (.cst (.int 1))) (.cst (.int 1)))) B__law_pull_11
def B__law_pull_13 : RB := .cons (.set 4 (.ix (.ix (.var 0) (.cst (.int 0))) (.ix (.var 0) (.cst (.int 1))))) B__law_pull_12
def B__law_pull_14 : RB := .cons (.ite (.and (.cmp .eq (.ix (.var 0) (.cst (.int 2))) (.cst (.int 0))) (.cmp .lt (.ix (.var 0) (.cst (.int 1))) (.bcl .len (.cons (.ix (.var 0) (.cst (.int 0))) .nil)))) B__law_pull_13 .nil) B__law_pull_7
def B__law_pull_15 : RB := .cons (.iset (.var 0) (.cst (.int 4)) (.bin .add (.ix (.var 0) (.cst (.int 4))) (.cst (.int 1)))) B__law_pull_14
def D__law_pull : FD := ⟨2, 7, [], false, B__law_pull_15⟩
/-! _law_of -/
def B__law_of_0 : RB := .cons (.ret (.ix (.var 1) (.call 3 (.cons (.var 0) (.cons (.bcl .len (.cons (.var 1) .nil)) .nil))))) .nil
def D__law_of : FD := ⟨2, 2, [], false, B__law_of_0⟩
/-! _law_renamed_sig -/
def B__law_renamed_sig_0 : RB := .cons (.ret (.lst false (.cons (.bin .add (.lst false (.cons (.var 1) .nil)) (.sl (.ix (.var 0) (.cst (.int 0))) (.some (.cst (.int 1))) .none)) (.cons (.frz (.var 2)) .nil)))) .nil
def B__law_renamed_sig_1 : RB := .cons (.ex (.bmt .append (.var 2) (.cons (.tup (.cons (.var 3) (.cons (.var 6) (.cons (.ite (.cmp .eq (.var 5) (.ix (.ix (.var 0) (.cst (.int 0))) (.cst (.int 0)))) (.var 1) (.var 5)) .nil)))) .nil))) .nil
def B__law_renamed_sig_2 : RB := .cons (.set 6 (.bcl .tuple (.cons (.lc false (.ite (.cmp .eq (.var 7) (.ix (.ix (.var 0) (.cst (.int 0))) (.cst (.int 0)))) (.var 1) (.var 7)) (.nm 7) (.seq (.var 4)) .none [7]) .nil))) B__law_renamed_sig_1
def B__law_renamed_sig_3 : RB := .cons (.forr (.tp (.cons (.nm 3) (.cons (.nm 4) (.cons (.nm 5) .nil)))) (.seq (.ix (.var 0) (.cst (.int 1)))) B__law_renamed_sig_2) B__law_renamed_sig_0
def B__law_renamed_sig_4 : RB := .cons (.set 2 (.lst true .nil)) B__law_renamed_sig_3
def B__law_renamed_sig_5 : RB := .cons (.set 1 (.ix (.lc false (.var 7) (.nm 7) (.seq (.lst false (.cons (.cst (.str "zzzzzz")) (.cons (.cst (.str "yyyyyy")) (.cons (.cst (.str "xxxxxx")) (.cons (.cst (.str "wwwwww")) .nil)))))) (.some (.cmp .nin (.var 7) (.ix (.var 0) (.cst (.int 0))))) [7]) (.cst (.int 0)))) B__law_renamed_sig_4
def D__law_renamed_sig : FD := ⟨1, 8, [], false, B__law_renamed_sig_5⟩
/-! Table.signature -/
def B_Table_signature_0 : RB := .cons (.ret (.fld (.var 0) 7)) .nil
def D_Table_signature : FD := ⟨1, 1, [], false, B_Table_signature_0⟩
/-! _law_tuples_in -/
def B__law_tuples_in_0 : RB := .cons (.ret (.frz (.var 1))) .nil
def B__law_tuples_in_1 : RB := .cons (.iset (.var 1) (.var 2) (.bcl .tuple (.cons (.ix (.var 0) (.var 2)) .nil))) .nil
def B__law_tuples_in_2 : RB := .cons (.forr (.nm 2) (.keys (.var 0)) B__law_tuples_in_1) B__law_tuples_in_0
def B__law_tuples_in_3 : RB := .cons (.set 1 (.dnew false)) B__law_tuples_in_2
def D__law_tuples_in : FD := ⟨1, 3, [], false, B__law_tuples_in_3⟩
/-! Signature.need -/
def B_Signature_need_0 : RB := .cons .wall .nil
def B_Signature_need_1 : RB := .cons (.ite (.or (.not (.isi (.var 1) true [.str])) (.cmp .nin (.var 1) (.fld (.var 0) 0))) B_Signature_need_0 .nil) .nil
def D_Signature_need : FD := ⟨2, 2, [], false, B_Signature_need_1⟩
/-! Table.entry -/
def B_Table_entry_0 : RB := .cons (.ret (.meth (.var 0) 26 (.cons (.var 1) (.cons (.var 2) .nil)))) .nil
def B_Table_entry_1 : RB := .cons .wall .nil
def B_Table_entry_2 : RB := .cons (.ite (.not (.call 37 (.cons (.var 2) (.cons (.meth (.var 0) 11 (.cons (.var 1) .nil)) .nil)))) B_Table_entry_1 .nil) B_Table_entry_0
def B_Table_entry_3 : RB := .cons (.ex (.meth (.fld (.var 0) 7) 8 (.cons (.var 1) .nil))) B_Table_entry_2
def D_Table_entry : FD := ⟨3, 3, [], true, B_Table_entry_3⟩
/-! _law_tuples -/
def B__law_tuples_0 : RB := .cons (.ret (.var 1)) .nil
def B__law_tuples_1 : RB := .cons (.set 1 (.frz (.var 3))) .nil
def B__law_tuples_2 : RB := .cons (.ex (.bmt .extend (.var 3) (.cons (.lc false (.bin .add (.var 4) (.tup (.cons (.var 5) .nil))) (.nm 5) (.rng (.var 2)) .none [5]) .nil))) .nil
def B__law_tuples_3 : RB := .cons (.forr (.nm 4) (.seq (.var 1)) B__law_tuples_2) B__law_tuples_1
def B__law_tuples_4 : RB := .cons (.set 3 (.lst true .nil)) B__law_tuples_3
def B__law_tuples_5 : RB := .cons (.forr (.nm 2) (.seq (.var 0)) B__law_tuples_4) B__law_tuples_0
def B__law_tuples_6 : RB := .cons (.set 1 (.lst false (.cons (.tup .nil) .nil))) B__law_tuples_5
def D__law_tuples : FD := ⟨1, 6, [], false, B__law_tuples_6⟩
/-! _law_mixed -/
def B__law_mixed_0 : RB := .cons (.ret (.frz (.var 2))) .nil
def B__law_mixed_1 : RB := .cons (.ex (.bmt .insert (.var 2) (.cons (.call 3 (.cons (.var 0) (.cons (.bin .add (.bcl .len (.cons (.var 2) .nil)) (.cst (.int 1))) .nil))) (.cons (.var 3) .nil)))) .nil
def B__law_mixed_2 : RB := .cons (.forr (.nm 3) (.seq (.var 1)) B__law_mixed_1) B__law_mixed_0
def B__law_mixed_3 : RB := .cons (.set 2 (.lst true .nil)) B__law_mixed_2
def D__law_mixed : FD := ⟨2, 4, [], false, B__law_mixed_3⟩
/-! _law_drawn_rows -/
def B__law_drawn_rows_0 : RB := .cons (.ret (.frz (.var 3))) .nil
def B__law_drawn_rows_1 : RB := .cons (.iset (.var 3) (.var 4) (.lc false (.call 3 (.cons (.var 0) (.cons (.ix (.var 2) (.bmt .index (.ix (.var 1) (.cst (.int 0))) (.cons (.var 6) .nil))) .nil))) (.nm 9) (.rng (.var 7)) .none [9])) .nil
def B__law_drawn_rows_2 : RB := .cons (.set 7 (.bin .mul (.var 7) (.ix (.var 2) (.bmt .index (.ix (.var 1) (.cst (.int 0))) (.cons (.var 8) .nil))))) .nil
def B__law_drawn_rows_3 : RB := .cons (.forr (.nm 8) (.seq (.var 5)) B__law_drawn_rows_2) B__law_drawn_rows_1
def B__law_drawn_rows_4 : RB := .cons (.set 7 (.cst (.int 1))) B__law_drawn_rows_3
def B__law_drawn_rows_5 : RB := .cons (.forr (.tp (.cons (.nm 4) (.cons (.nm 5) (.cons (.nm 6) .nil)))) (.seq (.ix (.var 1) (.cst (.int 1)))) B__law_drawn_rows_4) B__law_drawn_rows_0
def B__law_drawn_rows_6 : RB := .cons (.set 3 (.dnew false)) B__law_drawn_rows_5
def D__law_drawn_rows : FD := ⟨3, 10, [], false, B__law_drawn_rows_6⟩
/-! _law_any_sig -/
def B__law_any_sig_0 : RB := .cons (.ret (.lst false (.cons (.var 3) (.cons (.frz (.var 1)) .nil)))) .nil
def B__law_any_sig_1 : RB := .cons (.ex (.bmt .append (.var 1) (.cons (.tup (.cons (.var 2) (.cons (.var 5) (.cons (.call 4 (.cons (.var 0) (.cons (.var 3) .nil))) .nil)))) .nil))) .nil
def B__law_any_sig_2 : RB := .cons (.set 5 (.bcl .tuple (.cons (.lc false (.call 4 (.cons (.var 0) (.cons (.var 3) .nil))) (.nm 6) (.rng (.call 3 (.cons (.var 0) (.cons (.cst (.int 4)) .nil)))) .none [6]) .nil))) B__law_any_sig_1
def B__law_any_sig_3 : RB := .cons (.forr (.nm 2) (.seq (.var 4)) B__law_any_sig_2) B__law_any_sig_0
def B__law_any_sig_4 : RB := .cons (.set 1 (.lst true .nil)) B__law_any_sig_3
def B__law_any_sig_5 : RB := .cons (.par [3, 4] (.cons (.call 6 (.cons (.var 0) (.cons (.bin .add (.cst (.int 1)) (.call 3 (.cons (.var 0) (.cons (.cst (.int 3)) .nil)))) .nil))) (.cons (.call 6 (.cons (.var 0) (.cons (.bin .add (.cst (.int 1)) (.call 3 (.cons (.var 0) (.cons (.cst (.int 5)) .nil)))) .nil))) .nil))) B__law_any_sig_4
def D__law_any_sig : FD := ⟨1, 7, [], false, B__law_any_sig_5⟩
/-! is_below -/
def B_is_below_0 : RB := .cons (.ret (.and (.call 0 (.cons (.var 0) .nil)) (.cmp2 .le .lt (.cst (.int 0)) (.var 0) (.var 1)))) .nil
def D_is_below : FD := ⟨2, 2, [], false, B_is_below_0⟩
/-! Signature.arguments -/
def B_Signature_arguments_0 : RB := .cons (.ret (.ix (.ix (.fld (.var 0) 0) (.var 1)) (.cst (.int 0)))) .nil
def B_Signature_arguments_1 : RB := .cons (.ex (.meth (.var 0) 8 (.cons (.var 1) .nil))) B_Signature_arguments_0
def D_Signature_arguments : FD := ⟨2, 2, [], false, B_Signature_arguments_1⟩
/-! are_sorts -/
def B_are_sorts_0 : RB := .cons (.ret (.bcl .all (.cons (.lc false (.and (.isi (.var 2) true [.str]) (.cmp .inn (.var 2) (.var 1))) (.nm 2) (.seq (.var 0)) .none [2]) .nil))) .nil
def D_are_sorts : FD := ⟨2, 3, [], false, B_are_sorts_0⟩
/-! Table.entry_at -/
def B_Table_entry_at_0 : RB := .cons (.ret (.ix (.ix (.fld (.var 0) 3) (.var 1)) (.call 96 (.cons (.meth (.var 0) 11 (.cons (.var 1) .nil)) (.cons (.var 2) .nil))))) .nil
def D_Table_entry_at : FD := ⟨3, 3, [], false, B_Table_entry_at_0⟩
/-! _law_words -/
def B__law_words_0 : RB := .cons (.ret (.lc false (.bin .add (.bin .add (.sl (.var 3) .none (.some (.var 4))) (.ix (.var 2) (.bin .mod (.bcl .int (.cons (.bin .add (.var 5) (.bin .mul (.cst (.int 7)) (.var 6))) .nil)) (.cst (.int 26))))) (.sl (.var 3) (.some (.var 4)) .none)) (.nm 6) (.rng (.var 1)) .none [6])) .nil
def B__law_words_1 : RB := .cons (.par [4, 5] (.cons (.call 3 (.cons (.var 0) (.cons (.bin .add (.bcl .len (.cons (.var 3) .nil)) (.cst (.int 1))) .nil))) (.cons (.call 3 (.cons (.var 0) (.cons (.cst (.int 26)) .nil))) .nil))) B__law_words_0
def B__law_words_2 : RB := .cons (.set 3 (.bmt .join (.cst (.str "")) (.cons (.lc false (.call 4 (.cons (.var 0) (.cons (.var 2) .nil))) (.nm 6) (.rng (.call 3 (.cons (.var 0) (.cons (.cst (.int 6)) .nil)))) .none [6]) .nil))) B__law_words_1
def B__law_words_3 : RB := .cons (.set 2 (.cst (.str "abcdefghijklmnopqrstuvwxyz"))) B__law_words_2
def D__law_words : FD := ⟨2, 7, [], false, B__law_words_3⟩
/-! spot_in -/
def B_spot_in_0 : RB := .cons (.ret (.var 2)) .nil
def B_spot_in_1 : RB := .cons (.set 2 (.bin .add (.bin .mul (.var 2) (.var 3)) (.var 4))) .nil
def B_spot_in_2 : RB := .cons (.forr (.tp (.cons (.nm 3) (.cons (.nm 4) .nil))) (.zip (.cons (.var 0) (.cons (.var 1) .nil))) B_spot_in_1) B_spot_in_0
def B_spot_in_3 : RB := .cons (.set 2 (.cst (.int 0))) B_spot_in_2
def D_spot_in : FD := ⟨2, 5, [], false, B_spot_in_3⟩
/-! _law_unlike_tables -/
def B__law_unlike_tables_v1_0 : RB := .cons (.ret (.cmp .eq (.cmp .eq (.frz (.make 1 (.cons (.call 13 (.cons (.var 1) .nil)) (.cons (.ix (.var 2) (.cst (.int 0))) (.cons (.var 8) .nil))))) (.var 3)) (.cmp .eq (.var 9) (.cst (.int 1))))) .nil
def B__law_unlike_tables_v1_1 : RB := .cons (.iset (.var 5) (.var 6) (.bin .mod (.bcl .int (.cons (.bin .add (.ix (.var 5) (.var 6)) (.cst (.int 1))) .nil)) (.var 9))) B__law_unlike_tables_v1_0
def B__law_unlike_tables_v1_2 : RB := .cons (.set 6 (.bin .mod (.bcl .int (.cons (.var 6) .nil)) (.bcl .len (.cons (.var 5) .nil)))) B__law_unlike_tables_v1_1
def B__law_unlike_tables_v1_3 : RB := .cons (.set 5 (.ix (.var 8) (.var 7))) B__law_unlike_tables_v1_2
def B__law_unlike_tables_v1_4 : RB := .cons (.par [8, 9] (.cons (.call 98 (.cons (.ix (.var 2) (.cst (.int 1))) .nil)) (.cons (.call 86 (.cons (.var 1) (.cons (.var 2) (.cons (.ix (.call 87 (.cons (.var 1) (.cons (.var 7) .nil))) (.cst (.int 2))) .nil)))) .nil))) B__law_unlike_tables_v1_3
def B__law_unlike_tables_v1_5 : RB := .cons (.par [7, 6] (.cons (.ix (.call 4 (.cons (.var 0) (.cons (.ix (.var 1) (.cst (.int 1))) .nil))) (.cst (.int 0))) (.cons (.call 3 (.cons (.var 0) (.cons (.cst (.int 64)) .nil))) .nil))) B__law_unlike_tables_v1_4
def B__law_unlike_tables_v1_6 : RB := .cons (.ret (.cst (.bl false))) .nil
def B__law_unlike_tables_v1_7 : RB := .cons (.ite (.cmp .eq (.var 3) (.frz (.make 1 (.cons (.call 13 (.cons (.call 89 (.cons (.var 1) .nil)) .nil)) (.cons (.ix (.var 2) (.cst (.int 0))) (.cons (.ix (.var 2) (.cst (.int 1))) .nil)))))) B__law_unlike_tables_v1_6 .nil) B__law_unlike_tables_v1_5
def B__law_unlike_tables_v1_8 : RB := .cons (.ret (.cst (.bl false))) .nil
def B__law_unlike_tables_v1_9 : RB := .cons (.ite (.or (.cmp .ne (.var 4) (.var 3)) (.or (.cmp .eq (.var 3) (.var 2)) (.cmp .ne (.prop (.var 3) 25) (.call 13 (.cons (.var 1) .nil))))) B__law_unlike_tables_v1_8 .nil) B__law_unlike_tables_v1_7
def B__law_unlike_tables_v1_10 : RB := .cons (.set 4 (.frz (.make 1 (.cons (.call 13 (.cons (.var 1) .nil)) (.cons (.bcl .tuple (.cons (.ix (.var 2) (.cst (.int 0))) .nil)) (.cons (.call 91 (.cons (.ix (.var 2) (.cst (.int 1))) .nil)) .nil)))))) B__law_unlike_tables_v1_9
def D__law_unlike_tables_v1 : FD := ⟨4, 10, [], false, B__law_unlike_tables_v1_10⟩
/-! _law_given!! -/
def B__law_givenMM_0 : RB := .cons (.ret (.var 3)) .nil
def B__law_givenMM_1 : RB := .cons (.iset (.var 3) (.var 4) (.bcl .listM (.cons (.ix (.ix (.var 2) (.cst (.int 1))) (.var 4)) .nil))) .nil
def B__law_givenMM_2 : RB := .cons (.forr (.nm 4) (.seq (.call 93 (.cons (.var 0) (.cons (.lc false (.ix (.var 5) (.cst (.int 0))) (.nm 5) (.seq (.ix (.var 1) (.cst (.int 1)))) .none [5]) .nil)))) B__law_givenMM_1) B__law_givenMM_0
def B__law_givenMM_3 : RB := .cons (.set 3 (.dnew false)) B__law_givenMM_2
def D__law_givenMM : FD := ⟨3, 6, [], false, B__law_givenMM_3⟩
/-! _law_rows_copied!! -/
def B__law_rows_copiedMM_0 : RB := .cons (.ret (.var 1)) .nil
def B__law_rows_copiedMM_1 : RB := .cons (.iset (.var 1) (.var 2) (.bcl .listM (.cons (.ix (.var 0) (.var 2)) .nil))) .nil
def B__law_rows_copiedMM_2 : RB := .cons (.forr (.nm 2) (.keys (.var 0)) B__law_rows_copiedMM_1) B__law_rows_copiedMM_0
def B__law_rows_copiedMM_3 : RB := .cons (.set 1 (.dnew false)) B__law_rows_copiedMM_2
def D__law_rows_copiedMM : FD := ⟨1, 3, [], false, B__law_rows_copiedMM_3⟩
/-! Table.read -/
def B_Table_read_0 : RB := .cons (.ret (.var 4)) .nil
def B_Table_read_1 : RB := .cons .wall .nil
def B_Table_read_2 : RB := .cons (.ite (.cmp .notn (.var 5) (.cst .non)) B_Table_read_1 .nil) B_Table_read_0
def B_Table_read_3 : RB := .cons (.set 5 (.bin .add (.bcl .len (.cons (.var 1) .nil)) (.cst (.int 1)))) .nil
def B_Table_read_4 : RB := .cons (.ite (.and (.cmp .isn (.var 5) (.cst .non)) (.cmp .ne (.var 2) (.bmt .join (.cst (.str "")) (.cons (.lc false (.bin .add (.var 6) (.cst (.str "\n"))) (.nm 6) (.seq (.sl (.var 3) .none (.some (.bin .add (.bcl .len (.cons (.var 1) .nil)) (.cst (.int 1)))))) .none [6]) .nil)))) B_Table_read_3 .nil) B_Table_read_2
def B_Table_read_5 : RB := .cons (.asg (.tp (.cons (.nm 4) (.cons (.nm 5) .nil))) (.call 44 (.cons (.var 1) (.cons (.var 3) .nil)))) B_Table_read_4
def B_Table_read_6 : RB := .cons (.set 3 (.call 31 (.cons (.var 2) .nil))) B_Table_read_5
def D_Table_read : FD := ⟨3, 7, [], false, B_Table_read_6⟩
/-! Signature.text -/
def B_Signature_text_0 : RB := .cons (.ret (.bmt .join (.cst (.str "")) (.cons (.lc false (.bin .add (.var 5) (.cst (.str "\n"))) (.nm 5) (.seq (.var 1)) .none [5]) .nil))) .nil
def B_Signature_text_1 : RB := .cons (.ex (.bmt .append (.var 1) (.cons (.bmt .join (.cst (.str " ")) (.cons (.lst false (.cons (.cst (.str "op")) (.cons (.var 2) (.star (.var 3) (.cons (.cst (.str ">")) (.cons (.var 4) .nil)))))) .nil)) .nil))) .nil
def B_Signature_text_2 : RB := .cons (.forr (.tp (.cons (.nm 2) (.cons (.nm 3) (.cons (.nm 4) .nil)))) (.seq (.fld (.var 0) 1)) B_Signature_text_1) B_Signature_text_0
def B_Signature_text_3 : RB := .cons (.set 1 (.lst true (.cons (.bmt .join (.cst (.str " ")) (.cons (.lst false (.cons (.cst (.str "sorts")) (.star (.fld (.var 0) 2) .nil))) .nil)) .nil))) B_Signature_text_2
def D_Signature_text : FD := ⟨1, 6, [], false, B_Signature_text_3⟩
/-! Table.text -/
def B_Table_text_0 : RB := .cons (.ret (.bmt .join (.cst (.str "")) (.cons (.lc false (.bin .add (.bmt .join (.cst (.str " ")) (.cons (.lc false (.bcl .str (.cons (.var 4) .nil)) (.nm 4) (.seq (.var 3)) .none [4]) .nil)) (.cst (.str "\n"))) (.nm 3) (.seq (.var 1)) .none [3]) .nil))) .nil
def B_Table_text_1 : RB := .cons (.set 1 (.bin .add (.lst false (.cons (.lst false (.cons (.cst (.str "sizes")) (.star (.fld (.var 0) 6) .nil))) .nil)) (.lc false (.lst false (.cons (.var 2) (.star (.ix (.fld (.var 0) 3) (.var 2)) .nil))) (.nm 2) (.keys (.fld (.var 0) 3)) .none [2]))) B_Table_text_0
def D_Table_text : FD := ⟨1, 5, [], false, B_Table_text_1⟩
/-! _law_table_text -/
def B__law_table_text_0 : RB := .cons (.ret (.bmt .join (.cst (.str "")) (.cons (.lc false (.bin .add (.var 6) (.cst (.str "\n"))) (.nm 6) (.seq (.var 2)) .none [6]) .nil))) .nil
def B__law_table_text_1 : RB := .cons (.ex (.bmt .append (.var 2) (.cons (.bmt .join (.cst (.str " ")) (.cons (.bin .add (.lst false (.cons (.var 3) .nil)) (.lc false (.bcl .str (.cons (.var 8) .nil)) (.nm 8) (.seq (.ix (.ix (.var 1) (.cst (.int 1))) (.var 3))) .none [8])) .nil)) .nil))) .nil
def B__law_table_text_2 : RB := .cons (.forr (.tp (.cons (.nm 3) (.cons (.nm 4) (.cons (.nm 5) .nil)))) (.seq (.ix (.var 0) (.cst (.int 1)))) B__law_table_text_1) B__law_table_text_0
def B__law_table_text_3 : RB := .cons (.set 2 (.lst true (.cons (.bmt .join (.cst (.str " ")) (.cons (.bin .add (.lst false (.cons (.cst (.str "sizes")) .nil)) (.lc false (.bcl .str (.cons (.var 7) .nil)) (.nm 7) (.seq (.ix (.var 1) (.cst (.int 0)))) .none [7])) .nil)) .nil))) B__law_table_text_2
def D__law_table_text : FD := ⟨2, 9, [], false, B__law_table_text_3⟩
/-! Table.zero -/
def B_Table_zero_0 : RB := .cons (.ret (.frz (.make 1 (.cons (.var 0) (.cons (.var 1) (.cons (.var 5) .nil)))))) .nil
def B_Table_zero_1 : RB := .cons (.iset (.var 5) (.var 3) (.bin .mul (.lst false (.cons (.cst (.int 0)) .nil)) (.bcl .len (.cons (.call 38 (.cons (.lc false (.ix (.var 4) (.var 7)) (.nm 7) (.seq (.meth (.var 0) 1 (.cons (.var 3) .nil))) .none [7]) .nil)) .nil)))) .nil
def B_Table_zero_2 : RB := .cons (.forr (.nm 3) (.seq (.meth (.var 0) 2 .nil)) B_Table_zero_1) B_Table_zero_0
def B_Table_zero_3 : RB := .cons (.par [4, 5] (.cons (.dzip (.var 2) (.var 1)) (.cons (.dnew false) .nil))) B_Table_zero_2
def B_Table_zero_4 : RB := .cons .wall .nil
def B_Table_zero_5 : RB := .cons (.ite (.not (.bcl .all (.cons (.lc false (.and (.call 0 (.cons (.var 6) .nil)) (.cmp2 .le .le (.cst (.int 1)) (.var 6) (.ccon 1 2))) (.nm 6) (.seq (.var 1)) .none [6]) .nil))) B_Table_zero_4 .nil) B_Table_zero_3
def B_Table_zero_6 : RB := .cons .wall .nil
def B_Table_zero_7 : RB := .cons (.ite (.or (.not (.call 26 (.cons (.var 1) .nil))) (.cmp .ne (.bcl .len (.cons (.var 1) .nil)) (.bcl .len (.cons (.var 2) .nil)))) B_Table_zero_6 .nil) B_Table_zero_5
def B_Table_zero_8 : RB := .cons (.set 2 (.meth (.var 0) 4 .nil)) B_Table_zero_7
def D_Table_zero : FD := ⟨2, 8, [], false, B_Table_zero_8⟩
/-! _law_made -/
def B__law_made_0 : RB := .cons (.ret (.frz (.make 1 (.cons (.call 13 (.cons (.var 0) .nil)) (.cons (.bcl .list (.cons (.ix (.var 1) (.cst (.int 0))) .nil)) (.cons (.call 88 (.cons (.ix (.var 1) (.cst (.int 1))) .nil)) .nil)))))) .nil
def D__law_made : FD := ⟨2, 2, [], false, B__law_made_0⟩
/-! table_in -/
def B_table_in_0 : RB := .cons (.ret (.tup (.cons (.frz (.make 1 (.cons (.var 0) (.cons (.var 2) (.cons (.var 5) .nil))))) (.cons (.cst .non) .nil)))) .nil
def B_table_in_1 : RB := .cons (.iset (.var 5) (.var 7) (.var 8)) .nil
def B_table_in_2 : RB := .cons (.ret (.tup (.cons (.cst .non) (.cons (.bin .add (.var 6) (.cst (.int 1))) .nil)))) .nil
def B_table_in_3 : RB := .cons (.ite (.or (.cmp .isn (.var 8) (.cst .non)) (.not (.call 37 (.cons (.var 8) (.cons (.bin .mul (.lst false (.cons (.var 9) .nil)) (.bcl .len (.cons (.meth (.var 3) 13 (.cons (.var 7) .nil)) .nil))) .nil))))) B_table_in_2 .nil) B_table_in_1
def B_table_in_4 : RB := .cons (.set 9 (.meth (.var 3) 14 (.cons (.meth (.var 0) 0 (.cons (.var 7) .nil)) .nil))) B_table_in_3
def B_table_in_5 : RB := .cons (.set 8 (.ite (.cmp .lt (.bin .add (.var 6) (.cst (.int 1))) (.bcl .len (.cons (.var 1) .nil))) (.call 47 (.cons (.ix (.var 1) (.bin .add (.var 6) (.cst (.int 1)))) (.cons (.var 7) .nil))) (.cst .non))) B_table_in_4
def B_table_in_6 : RB := .cons (.forr (.tp (.cons (.nm 6) (.cons (.nm 7) .nil))) (.enum (.var 4)) B_table_in_5) B_table_in_0
def B_table_in_7 : RB := .cons (.set 3 (.smeth 1 30 (.cons (.var 0) (.cons (.var 2) .nil)))) B_table_in_6
def B_table_in_8 : RB := .cons (.ret (.tup (.cons (.cst .non) (.cons (.cst (.int 0)) .nil)))) .nil
def B_table_in_9 : RB := .cons (.ite (.or (.cmp .isn (.var 2) (.cst .non)) (.or (.cmp .ne (.bcl .len (.cons (.var 2) .nil)) (.bcl .len (.cons (.meth (.var 0) 4 .nil) .nil))) (.not (.bcl .all (.cons (.lc false (.cmp2 .le .le (.cst (.int 1)) (.var 10) (.ccon 1 2)) (.nm 10) (.seq (.var 2)) .none [10]) .nil))))) B_table_in_8 .nil) B_table_in_7
def B_table_in_10 : RB := .cons (.set 2 (.ite (.cmp .ne (.var 1) (.lst false .nil)) (.call 47 (.cons (.ix (.var 1) (.cst (.int 0))) (.cons (.cst (.str "sizes")) .nil))) (.cst .non))) B_table_in_9
def B_table_in_11 : RB := .cons (.par [4, 5] (.cons (.meth (.var 0) 2 .nil) (.cons (.dnew false) .nil))) B_table_in_10
def D_table_in : FD := ⟨2, 11, [], false, B_table_in_11⟩
/-! lines_of -/
def B_lines_of_0 : RB := .cons (.ret (.sl (.bmt .split (.var 0) (.cons (.cst (.str "\n")) .nil)) .none (.some (.neg (.cst (.int 1)))))) .nil
def B_lines_of_1 : RB := .cons .wall .nil
def B_lines_of_2 : RB := .cons (.ite (.not (.isi (.var 0) true [.str])) B_lines_of_1 .nil) B_lines_of_0
def D_lines_of : FD := ⟨1, 1, [], false, B_lines_of_2⟩
/-! numbers_in -/
def B_numbers_in_0 : RB := .cons (.ret (.ite (.and (.cmp .eq (.ix (.var 2) (.cst (.int 0))) (.var 1)) (.cmp .nin (.cst .non) (.var 3))) (.var 3) (.cst .non))) .nil
def B_numbers_in_1 : RB := .cons (.set 3 (.lc false (.call 48 (.cons (.var 4) .nil)) (.nm 4) (.seq (.sl (.var 2) (.some (.cst (.int 1))) .none)) .none [4])) B_numbers_in_0
def B_numbers_in_2 : RB := .cons (.set 2 (.bmt .split (.var 0) (.cons (.cst (.str " ")) .nil))) B_numbers_in_1
def D_numbers_in : FD := ⟨2, 5, [], false, B_numbers_in_2⟩
/-! figure_in -/
def B_figure_in_0 : RB := .cons (.ret (.ite (.and (.cmp .eq (.bcl .len (.cons (.var 0) .nil)) (.cst (.int 1))) (.cmp .inn (.var 0) (.glo 3))) (.bcl .int (.cons (.var 0) .nil)) (.cst .non))) .nil
def D_figure_in : FD := ⟨1, 1, [], false, B_figure_in_0⟩
end Dn
end

noncomputable section
namespace Dn
/-! law -/
def B_law_v3_0 : RB := .cons (.ret (.cst (.bl true))) .nil
def B_law_v3_1 : RB := .cons (.ret (.cst (.bl false))) .nil
def B_law_v3_2 : RB := .cons (.ite (.cmp .ne (.var 8) (.lst false (.cons (.cmp .lt (.var 3) (.cst (.int 15))) (.cons (.cmp .lt (.var 3) (.cst (.int 15))) (.cons (.cmp .eq (.var 3) (.cst (.int 15))) (.cons (.cmp .gt (.var 3) (.cst (.int 14))) (.cons (.cmp .eq (.var 3) (.cst (.int 16))) .nil))))))) B_law_v3_1 .nil) .nil
def B_law_v3_3 : RB := .cons (.set 8 (.lst false (.cons (.xis (.var 6) (.own 1)) (.cons (.xis (.var 6) (.blt 0)) (.cons (.xis (.var 6) (.own 0)) (.cons (.xis (.var 6) (.blt 1)) (.cons (.xis (.var 6) (.blt 2)) .nil))))))) B_law_v3_2
def B_law_v3_4 : RB := .cons (.ret (.cst (.bl false))) .nil
def B_law_v3_5 : RB := .cons (.ite (.cmp .ne (.call 101 (.cons (.var 6) .nil)) (.lc false (.cmp .eq (.var 9) (.var 3)) (.nm 9) (.rng (.cst (.int 17))) .none [9])) B_law_v3_4 .nil) B_law_v3_3
def B_law_v3_6 : RB := .cons (.ret (.cst (.bl false))) .nil
def B_law_v3_7 : RB := .cons (.ite (.not (.call 5 (.cons (.lst false (.cons (.xfld (.var 6) 15) (.cons (.call 102 (.cons (.var 6) .nil)) .nil))) (.cons (.lst false (.cons (.ix (.var 4) (.var 3)) (.cons (.ite (.var 7) (.tup .nil) (.tup (.cons (.var 2) .nil))) .nil))) .nil)))) B_law_v3_6 .nil) B_law_v3_5
def B_law_v3_8 : RB := .cons (.set 7 (.cmp .inn (.ix (.var 4) (.var 3)) (.tup (.cons (.cst (.str "Unlike")) (.cons (.cst (.str "NothingLeft")) .nil))))) B_law_v3_7
def B_law_v3_9 : RB := .cons (.set 6 (.ix (.var 5) (.var 3))) B_law_v3_8
def B_law_v3_10 : RB := .cons (.forr (.nm 3) (.rng (.cst (.int 17))) B_law_v3_9) B_law_v3_0
def B_law_v3_11 : RB := .cons (.par [4, 5] (.cons (.call 104 .nil) (.cons (.call 103 (.cons (.var 2) .nil)) .nil))) B_law_v3_10
def B_law_v3_12 : RB := .cons (.set 2 (.call 4 (.cons (.var 1) (.cons (.lst false (.cons (.call 3 (.cons (.var 1) (.cons (.bin .pow (.cst (.int 10)) (.cst (.int 9))) .nil))) (.cons (.cst (.str "a")) (.cons (.cst .non) (.cons (.tup (.cons (.cst (.int 1)) (.cons (.cst (.str "b")) .nil))) (.cons (.cst (.bl true)) (.cons (.neg (.cst (.int 1))) .nil))))))) .nil)))) B_law_v3_11
def B_law_v3_13 : RB := .cons (.set 1 (.call 2 (.cons (.var 0) .nil))) B_law_v3_12
def D_law_v3 : FD := ⟨1, 10, [], false, B_law_v3_13⟩
/-! _law_sorts -/
def B__law_sorts_0 : RB := .cons (.ret (.bin .add (.var 1) (.lst false (.cons (.xis (.var 0) (.own 9)) (.cons (.xis (.var 0) (.own 8)) (.cons (.xis (.var 0) (.own 7)) (.cons (.xis (.var 0) (.own 6)) (.cons (.xis (.var 0) (.own 5)) (.cons (.xis (.var 0) (.own 4)) (.cons (.xis (.var 0) (.own 3)) (.cons (.xis (.var 0) (.own 2)) .nil))))))))))) .nil
def B__law_sorts_1 : RB := .cons (.set 1 (.lst false (.cons (.xis (.var 0) (.own 18)) (.cons (.xis (.var 0) (.own 17)) (.cons (.xis (.var 0) (.own 16)) (.cons (.xis (.var 0) (.own 15)) (.cons (.xis (.var 0) (.own 14)) (.cons (.xis (.var 0) (.own 13)) (.cons (.xis (.var 0) (.own 12)) (.cons (.xis (.var 0) (.own 11)) (.cons (.xis (.var 0) (.own 10)) .nil))))))))))) B__law_sorts_0
def D__law_sorts : FD := ⟨1, 2, [], false, B__law_sorts_1⟩
/-! _law_field -/
def B__law_field_0 : RB := .cons (.ret (.ite (.cmp .eq (.xfld (.var 0) 15) (.cst (.str "CapacityExceeded"))) (.tup (.cons (.xfld (.var 0) 16) .nil)) (.tup (.cons (.xfld (.var 0) 17) .nil)))) .nil
def B__law_field_1 : RB := .cons (.ret (.tup (.cons (.xfld (.var 0) 18) .nil))) .nil
def B__law_field_2 : RB := .cons (.ite (.cmp .eq (.xfld (.var 0) 15) (.cst (.str "InvalidCommand"))) B__law_field_1 .nil) B__law_field_0
def B__law_field_3 : RB := .cons (.ret (.tup (.cons (.xfld (.var 0) 19) .nil))) .nil
def B__law_field_4 : RB := .cons (.ite (.cmp .eq (.xfld (.var 0) 15) (.cst (.str "InvalidText"))) B__law_field_3 .nil) B__law_field_2
def B__law_field_5 : RB := .cons (.ret (.tup .nil)) .nil
def B__law_field_6 : RB := .cons (.ite (.cmp .inn (.xfld (.var 0) 15) (.tup (.cons (.cst (.str "Unlike")) (.cons (.cst (.str "NothingLeft")) .nil)))) B__law_field_5 .nil) B__law_field_4
def B__law_field_7 : RB := .cons (.ret (.tup (.cons (.xfld (.var 0) 20) .nil))) .nil
def B__law_field_8 : RB := .cons (.ite (.cmp .inn (.xfld (.var 0) 15) (.tup (.cons (.cst (.str "TooGreat")) (.cons (.cst (.str "TooLong")) .nil)))) B__law_field_7 .nil) B__law_field_6
def B__law_field_9 : RB := .cons (.ret (.tup (.cons (.xfld (.var 0) 21) .nil))) .nil
def B__law_field_10 : RB := .cons (.ite (.cmp .inn (.xfld (.var 0) 15) (.tup (.cons (.cst (.str "InvalidSignature")) (.cons (.cst (.str "InvalidTable")) (.cons (.cst (.str "InvalidRule")) .nil))))) B__law_field_9 .nil) B__law_field_8
def D__law_field : FD := ⟨1, 1, [], false, B__law_field_10⟩
/-! _law_errors -/
def B__law_errors_0 : RB := .cons (.ret (.bin .add (.var 1) (.lst false (.cons (.exnK 3 (.var 0)) (.cons (.exn 2 .nil) .nil))))) .nil
def B__law_errors_1 : RB := .cons (.set 1 (.bin .add (.var 1) (.lst false (.cons (.exnK 6 (.var 0)) (.cons (.exn 5 (.cons (.var 0) .nil)) (.cons (.exnK 4 (.var 0)) .nil)))))) B__law_errors_0
def B__law_errors_2 : RB := .cons (.set 1 (.bin .add (.var 1) (.lst false (.cons (.exn 10 (.cons (.var 0) .nil)) (.cons (.exnK 9 (.var 0)) (.cons (.exnK 8 (.var 0)) (.cons (.exn 7 .nil) .nil))))))) B__law_errors_1
def B__law_errors_3 : RB := .cons (.set 1 (.bin .add (.var 1) (.lst false (.cons (.exnK 14 (.var 0)) (.cons (.exnK 13 (.var 0)) (.cons (.exn 12 (.cons (.var 0) .nil)) (.cons (.exnK 11 (.var 0)) .nil))))))) B__law_errors_2
def B__law_errors_4 : RB := .cons (.set 1 (.lst false (.cons (.exn 18 (.cons (.var 0) .nil)) (.cons (.exnK 17 (.var 0)) (.cons (.exn 16 (.cons (.var 0) .nil)) (.cons (.exnK 15 (.var 0)) .nil)))))) B__law_errors_3
def D__law_errors : FD := ⟨1, 2, [], false, B__law_errors_4⟩
/-! _law_codes -/
def B__law_codes_0 : RB := .cons (.ret (.lst false (.cons (.cst (.str "InvalidName")) (.cons (.cst (.str "InvalidSignature")) (.cons (.cst (.str "InvalidTable")) (.cons (.cst (.str "InvalidRule")) (.cons (.cst (.str "InvalidText")) (.cons (.cst (.str "InvalidThing")) (.cons (.cst (.str "InvalidNumber")) (.cons (.cst (.str "InvalidWord")) (.cons (.cst (.str "InvalidLimit")) (.cons (.cst (.str "InvalidCommand")) (.cons (.cst (.str "DuplicateName")) (.cons (.cst (.str "Unlike")) (.cons (.cst (.str "TooGreat")) (.cons (.cst (.str "TooLong")) (.cons (.cst (.str "CapacityExceeded")) (.cons (.cst (.str "UnknownName")) (.cons (.cst (.str "NothingLeft")) .nil))))))))))))))))))) .nil
def D__law_codes : FD := ⟨0, 0, [], false, B__law_codes_0⟩
end Dn
end

namespace Law
open Dn PySem PySem.Spec PyProof.Rows L2
noncomputable section
def n7 : List Str := [("_law_script" : Str), ("_law_bag_here" : Str), ("_law_x" : Str), ("_law_k" : Str), ("_law_codes_here" : Str), ("_law_made" : Str), ("_law_e" : Str), ("_law_bare" : Str), ("_law_bases" : Str), ("_law_j" : Str)]
def p7 : List Str := ["_law_script"]
def n101 : List Str := [("_law_e" : Str), ("_law_found" : Str)]
def p101 : List Str := ["_law_e"]
def n5 : List Str := [("_law_found" : Str), ("_law_due" : Str), ("_law_a" : Str), ("_law_b" : Str)]
def p5 : List Str := ["_law_found", "_law_due"]
def n102 : List Str := [("_law_e" : Str)]
def p102 : List Str := ["_law_e"]
def n103 : List Str := [("_law_x" : Str), ("_law_found" : Str)]
def p103 : List Str := ["_law_x"]
def n104 : List Str := []
def p104 : List Str := []
def n4 : List Str := [("_law_bag_here" : Str), ("_law_rows_z" : Str)]
def p4 : List Str := ["_law_bag_here", "_law_rows_z"]
def n3 : List Str := [("_law_bag_here" : Str), ("_law_many" : Str), ("_law_seed" : Str), ("_law_step" : Str), ("_law_cell" : Str), ("_law_digit" : Str), ("_law_small" : Str)]
def p3 : List Str := ["_law_bag_here", "_law_many"]
def n2 : List Str := [("_law_script" : Str)]
def p2 : List Str := ["_law_script"]
def tab : Tab where
  cl := []
  fl := [(15, "code"), (16, "limit"), (17, "value"), (18, "index"), (19, "line"), (20, "most"), (21, "part")]
  mn := []
  cn := []
  fn := [(7, "law"), (101, "_law_sorts"), (5, "_law_same"), (102, "_law_field"), (103, "_law_errors"), (104, "_law_codes"), (4, "_law_of"), (3, "_law_pull"), (2, "_law_bag")]
  gl := []
  gv := []
  fd := [(7, D_law_v3), (101, D__law_sorts), (5, D__law_same), (102, D__law_field), (103, D__law_errors), (104, D__law_codes), (4, D__law_of), (3, D__law_pull), (2, D__law_bag)]
  at_ := [(7, .glo "law"), (101, .glo "_law_sorts"), (5, .glo "_law_same"), (102, .glo "_law_field"), (103, .glo "_law_errors"), (104, .glo "_law_codes"), (4, .glo "_law_of"), (3, .glo "_law_pull"), (2, .glo "_law_bag")]
  kw := []
  ex := [(0, ⟨"Missing", 1, none, []⟩),
    (1, ⟨"LawError", 0, none, []⟩),
    (2, ⟨"NothingLeft", 2, some ("NothingLeft", none), [(.blt 2, true), (.blt 1, true), (.own 0, false), (.blt 0, false), (.own 1, false), (.own 2, true), (.own 3, false), (.own 4, false), (.own 5, false), (.own 6, false), (.own 7, false), (.own 8, false), (.own 9, false), (.own 10, false), (.own 11, false), (.own 12, false), (.own 13, false), (.own 14, false), (.own 15, false), (.own 16, false), (.own 17, false), (.own 18, false)]⟩),
    (3, ⟨"UnknownName", 1, some ("UnknownName", some (17, "value", "value")), [(.blt 2, false), (.blt 1, true), (.own 0, true), (.blt 0, false), (.own 1, false), (.own 2, false), (.own 3, true), (.own 4, false), (.own 5, false), (.own 6, false), (.own 7, false), (.own 8, false), (.own 9, false), (.own 10, false), (.own 11, false), (.own 12, false), (.own 13, false), (.own 14, false), (.own 15, false), (.own 16, false), (.own 17, false), (.own 18, false)]⟩),
    (4, ⟨"CapacityExceeded", 0, some ("CapacityExceeded", some (16, "limit", "limit")), [(.blt 2, false), (.blt 1, false), (.own 0, false), (.blt 0, true), (.own 1, true), (.own 2, false), (.own 3, false), (.own 4, true), (.own 5, false), (.own 6, false), (.own 7, false), (.own 8, false), (.own 9, false), (.own 10, false), (.own 11, false), (.own 12, false), (.own 13, false), (.own 14, false), (.own 15, false), (.own 16, false), (.own 17, false), (.own 18, false)]⟩),
    (5, ⟨"TooLong", 0, some ("TooLong", some (20, "most", "most")), [(.blt 2, false), (.blt 1, false), (.own 0, false), (.blt 0, true), (.own 1, true), (.own 2, false), (.own 3, false), (.own 4, false), (.own 5, true), (.own 6, false), (.own 7, false), (.own 8, false), (.own 9, false), (.own 10, false), (.own 11, false), (.own 12, false), (.own 13, false), (.own 14, false), (.own 15, false), (.own 16, false), (.own 17, false), (.own 18, false)]⟩),
    (6, ⟨"TooGreat", 0, some ("TooGreat", some (20, "most", "most")), [(.blt 2, false), (.blt 1, false), (.own 0, false), (.blt 0, true), (.own 1, true), (.own 2, false), (.own 3, false), (.own 4, false), (.own 5, false), (.own 6, true), (.own 7, false), (.own 8, false), (.own 9, false), (.own 10, false), (.own 11, false), (.own 12, false), (.own 13, false), (.own 14, false), (.own 15, false), (.own 16, false), (.own 17, false), (.own 18, false)]⟩),
    (7, ⟨"Unlike", 0, some ("Unlike", none), [(.blt 2, false), (.blt 1, false), (.own 0, false), (.blt 0, true), (.own 1, true), (.own 2, false), (.own 3, false), (.own 4, false), (.own 5, false), (.own 6, false), (.own 7, true), (.own 8, false), (.own 9, false), (.own 10, false), (.own 11, false), (.own 12, false), (.own 13, false), (.own 14, false), (.own 15, false), (.own 16, false), (.own 17, false), (.own 18, false)]⟩),
    (8, ⟨"DuplicateName", 0, some ("DuplicateName", some (17, "value", "value")), [(.blt 2, false), (.blt 1, false), (.own 0, false), (.blt 0, true), (.own 1, true), (.own 2, false), (.own 3, false), (.own 4, false), (.own 5, false), (.own 6, false), (.own 7, false), (.own 8, true), (.own 9, false), (.own 10, false), (.own 11, false), (.own 12, false), (.own 13, false), (.own 14, false), (.own 15, false), (.own 16, false), (.own 17, false), (.own 18, false)]⟩),
    (9, ⟨"InvalidCommand", 0, some ("InvalidCommand", some (18, "index", "index")), [(.blt 2, false), (.blt 1, false), (.own 0, false), (.blt 0, true), (.own 1, true), (.own 2, false), (.own 3, false), (.own 4, false), (.own 5, false), (.own 6, false), (.own 7, false), (.own 8, false), (.own 9, true), (.own 10, false), (.own 11, false), (.own 12, false), (.own 13, false), (.own 14, false), (.own 15, false), (.own 16, false), (.own 17, false), (.own 18, false)]⟩),
    (10, ⟨"InvalidLimit", 0, some ("InvalidLimit", some (17, "value", "value")), [(.blt 2, false), (.blt 1, false), (.own 0, false), (.blt 0, true), (.own 1, true), (.own 2, false), (.own 3, false), (.own 4, false), (.own 5, false), (.own 6, false), (.own 7, false), (.own 8, false), (.own 9, false), (.own 10, true), (.own 11, false), (.own 12, false), (.own 13, false), (.own 14, false), (.own 15, false), (.own 16, false), (.own 17, false), (.own 18, false)]⟩),
    (11, ⟨"InvalidWord", 0, some ("InvalidWord", some (17, "value", "value")), [(.blt 2, false), (.blt 1, false), (.own 0, false), (.blt 0, true), (.own 1, true), (.own 2, false), (.own 3, false), (.own 4, false), (.own 5, false), (.own 6, false), (.own 7, false), (.own 8, false), (.own 9, false), (.own 10, false), (.own 11, true), (.own 12, false), (.own 13, false), (.own 14, false), (.own 15, false), (.own 16, false), (.own 17, false), (.own 18, false)]⟩),
    (12, ⟨"InvalidNumber", 0, some ("InvalidNumber", some (17, "value", "value")), [(.blt 2, false), (.blt 1, false), (.own 0, false), (.blt 0, true), (.own 1, true), (.own 2, false), (.own 3, false), (.own 4, false), (.own 5, false), (.own 6, false), (.own 7, false), (.own 8, false), (.own 9, false), (.own 10, false), (.own 11, false), (.own 12, true), (.own 13, false), (.own 14, false), (.own 15, false), (.own 16, false), (.own 17, false), (.own 18, false)]⟩),
    (13, ⟨"InvalidThing", 0, some ("InvalidThing", some (17, "value", "value")), [(.blt 2, false), (.blt 1, false), (.own 0, false), (.blt 0, true), (.own 1, true), (.own 2, false), (.own 3, false), (.own 4, false), (.own 5, false), (.own 6, false), (.own 7, false), (.own 8, false), (.own 9, false), (.own 10, false), (.own 11, false), (.own 12, false), (.own 13, true), (.own 14, false), (.own 15, false), (.own 16, false), (.own 17, false), (.own 18, false)]⟩),
    (14, ⟨"InvalidText", 0, some ("InvalidText", some (19, "line", "line")), [(.blt 2, false), (.blt 1, false), (.own 0, false), (.blt 0, true), (.own 1, true), (.own 2, false), (.own 3, false), (.own 4, false), (.own 5, false), (.own 6, false), (.own 7, false), (.own 8, false), (.own 9, false), (.own 10, false), (.own 11, false), (.own 12, false), (.own 13, false), (.own 14, true), (.own 15, false), (.own 16, false), (.own 17, false), (.own 18, false)]⟩),
    (15, ⟨"InvalidRule", 0, some ("InvalidRule", some (21, "part", "part")), [(.blt 2, false), (.blt 1, false), (.own 0, false), (.blt 0, true), (.own 1, true), (.own 2, false), (.own 3, false), (.own 4, false), (.own 5, false), (.own 6, false), (.own 7, false), (.own 8, false), (.own 9, false), (.own 10, false), (.own 11, false), (.own 12, false), (.own 13, false), (.own 14, false), (.own 15, true), (.own 16, false), (.own 17, false), (.own 18, false)]⟩),
    (16, ⟨"InvalidTable", 0, some ("InvalidTable", some (21, "part", "part")), [(.blt 2, false), (.blt 1, false), (.own 0, false), (.blt 0, true), (.own 1, true), (.own 2, false), (.own 3, false), (.own 4, false), (.own 5, false), (.own 6, false), (.own 7, false), (.own 8, false), (.own 9, false), (.own 10, false), (.own 11, false), (.own 12, false), (.own 13, false), (.own 14, false), (.own 15, false), (.own 16, true), (.own 17, false), (.own 18, false)]⟩),
    (17, ⟨"InvalidSignature", 0, some ("InvalidSignature", some (21, "part", "part")), [(.blt 2, false), (.blt 1, false), (.own 0, false), (.blt 0, true), (.own 1, true), (.own 2, false), (.own 3, false), (.own 4, false), (.own 5, false), (.own 6, false), (.own 7, false), (.own 8, false), (.own 9, false), (.own 10, false), (.own 11, false), (.own 12, false), (.own 13, false), (.own 14, false), (.own 15, false), (.own 16, false), (.own 17, true), (.own 18, false)]⟩),
    (18, ⟨"InvalidName", 0, some ("InvalidName", some (17, "value", "value")), [(.blt 2, false), (.blt 1, false), (.own 0, false), (.blt 0, true), (.own 1, true), (.own 2, false), (.own 3, false), (.own 4, false), (.own 5, false), (.own 6, false), (.own 7, false), (.own 8, false), (.own 9, false), (.own 10, false), (.own 11, false), (.own 12, false), (.own 13, false), (.own 14, false), (.own 15, false), (.own 16, false), (.own 17, false), (.own 18, true)]⟩)]
  kc := 15
  file := (PySem.Challenge.pw_keptlaws_k01_errors_by_themselves).main.file
abbrev prog : Program := PySem.Challenge.pw_keptlaws_k01_errors_by_themselves
def top (i : Nat) : Stmt := prog.main.body.getD i (.Pass ⟨0, 0, 0, 0⟩)
def st7 : Stmt := (top 29)
def st101 : Stmt := (top 28)
def st5 : Stmt := (top 24)
def st102 : Stmt := (top 25)
def st103 : Stmt := (top 27)
def st104 : Stmt := (top 26)
def st4 : Stmt := (top 23)
def st3 : Stmt := (top 22)
def st2 : Stmt := (top 21)
def h7 : He5.DefA := ⟨fun K => (At.ad K (.glo "law")), "law", "law", defArgs st7, defBody st7, defScope st7, [], []⟩
def h101 : He5.DefA := ⟨fun K => (At.ad K (.glo "_law_sorts")), "_law_sorts", "_law_sorts", defArgs st101, defBody st101, defScope st101, [], []⟩
def h5 : He5.DefA := ⟨fun K => (At.ad K (.glo "_law_same")), "_law_same", "_law_same", defArgs st5, defBody st5, defScope st5, [], []⟩
def h102 : He5.DefA := ⟨fun K => (At.ad K (.glo "_law_field")), "_law_field", "_law_field", defArgs st102, defBody st102, defScope st102, [], []⟩
def h103 : He5.DefA := ⟨fun K => (At.ad K (.glo "_law_errors")), "_law_errors", "_law_errors", defArgs st103, defBody st103, defScope st103, [], []⟩
def h104 : He5.DefA := ⟨fun K => (At.ad K (.glo "_law_codes")), "_law_codes", "_law_codes", defArgs st104, defBody st104, defScope st104, [], []⟩
def h4 : He5.DefA := ⟨fun K => (At.ad K (.glo "_law_of")), "_law_of", "_law_of", defArgs st4, defBody st4, defScope st4, [], []⟩
def h3 : He5.DefA := ⟨fun K => (At.ad K (.glo "_law_pull")), "_law_pull", "_law_pull", defArgs st3, defBody st3, defScope st3, [], []⟩
def h2 : He5.DefA := ⟨fun K => (At.ad K (.glo "_law_bag")), "_law_bag", "_law_bag", defArgs st2, defBody st2, defScope st2, [], []⟩
def xst2 : Stmt := ((clsBd (top 19)).getD 0 (.Pass ⟨0, 0, 0, 0⟩))
def xi2 : XiA := ⟨"NothingLeft", defArgs xst2, defBody xst2, defScope xst2⟩
def xst3 : Stmt := ((clsBd (top 18)).getD 0 (.Pass ⟨0, 0, 0, 0⟩))
def xi3 : XiA := ⟨"UnknownName", defArgs xst3, defBody xst3, defScope xst3⟩
def xst4 : Stmt := ((clsBd (top 16)).getD 0 (.Pass ⟨0, 0, 0, 0⟩))
def xi4 : XiA := ⟨"CapacityExceeded", defArgs xst4, defBody xst4, defScope xst4⟩
def xst5 : Stmt := ((clsBd (top 15)).getD 0 (.Pass ⟨0, 0, 0, 0⟩))
def xi5 : XiA := ⟨"TooLong", defArgs xst5, defBody xst5, defScope xst5⟩
def xst6 : Stmt := ((clsBd (top 14)).getD 0 (.Pass ⟨0, 0, 0, 0⟩))
def xi6 : XiA := ⟨"TooGreat", defArgs xst6, defBody xst6, defScope xst6⟩
def xst7 : Stmt := ((clsBd (top 13)).getD 0 (.Pass ⟨0, 0, 0, 0⟩))
def xi7 : XiA := ⟨"Unlike", defArgs xst7, defBody xst7, defScope xst7⟩
def xst8 : Stmt := ((clsBd (top 12)).getD 0 (.Pass ⟨0, 0, 0, 0⟩))
def xi8 : XiA := ⟨"DuplicateName", defArgs xst8, defBody xst8, defScope xst8⟩
def xst9 : Stmt := ((clsBd (top 11)).getD 0 (.Pass ⟨0, 0, 0, 0⟩))
def xi9 : XiA := ⟨"InvalidCommand", defArgs xst9, defBody xst9, defScope xst9⟩
def xst10 : Stmt := ((clsBd (top 10)).getD 0 (.Pass ⟨0, 0, 0, 0⟩))
def xi10 : XiA := ⟨"InvalidLimit", defArgs xst10, defBody xst10, defScope xst10⟩
def xst11 : Stmt := ((clsBd (top 9)).getD 0 (.Pass ⟨0, 0, 0, 0⟩))
def xi11 : XiA := ⟨"InvalidWord", defArgs xst11, defBody xst11, defScope xst11⟩
def xst12 : Stmt := ((clsBd (top 8)).getD 0 (.Pass ⟨0, 0, 0, 0⟩))
def xi12 : XiA := ⟨"InvalidNumber", defArgs xst12, defBody xst12, defScope xst12⟩
def xst13 : Stmt := ((clsBd (top 7)).getD 0 (.Pass ⟨0, 0, 0, 0⟩))
def xi13 : XiA := ⟨"InvalidThing", defArgs xst13, defBody xst13, defScope xst13⟩
def xst14 : Stmt := ((clsBd (top 6)).getD 0 (.Pass ⟨0, 0, 0, 0⟩))
def xi14 : XiA := ⟨"InvalidText", defArgs xst14, defBody xst14, defScope xst14⟩
def xst15 : Stmt := ((clsBd (top 5)).getD 0 (.Pass ⟨0, 0, 0, 0⟩))
def xi15 : XiA := ⟨"InvalidRule", defArgs xst15, defBody xst15, defScope xst15⟩
def xst16 : Stmt := ((clsBd (top 4)).getD 0 (.Pass ⟨0, 0, 0, 0⟩))
def xi16 : XiA := ⟨"InvalidTable", defArgs xst16, defBody xst16, defScope xst16⟩
def xst17 : Stmt := ((clsBd (top 3)).getD 0 (.Pass ⟨0, 0, 0, 0⟩))
def xi17 : XiA := ⟨"InvalidSignature", defArgs xst17, defBody xst17, defScope xst17⟩
def xst18 : Stmt := ((clsBd (top 2)).getD 0 (.Pass ⟨0, 0, 0, 0⟩))
def xi18 : XiA := ⟨"InvalidName", defArgs xst18, defBody xst18, defScope xst18⟩
def xil : List XiA := [xi2, xi3, xi4, xi5, xi6, xi7, xi8, xi9, xi10, xi11, xi12, xi13, xi14, xi15, xi16, xi17, xi18]
def fnl : List He5.DefA := [h7, h101, h5, h102, h103, h104, h4, h3, h2]
abbrev R : PySem.W.OpenRow := PySem.W.OpenLaw.row PySem.Challenge.rw_keptlaws_k01_errors_by_themselves
abbrev hk : PySem.W.Hook := hookX 7 fnl xil tab.facts
def ob (s : PySem.W.SharedT) : AlX := obsX 7 fnl xil tab.facts (HandSHeadRun.getT s)
theorem ob_eq (s : PySem.W.SharedT) : ob s = hk.obs s.abs := obsX_eq (HandSHeadRun.getT_eq s)
def loose : List Str := [("LawError" : Str), ("InvalidName" : Str), ("InvalidSignature" : Str), ("InvalidTable" : Str), ("InvalidRule" : Str), ("InvalidText" : Str), ("InvalidThing" : Str), ("InvalidNumber" : Str), ("InvalidWord" : Str), ("InvalidLimit" : Str), ("InvalidCommand" : Str), ("DuplicateName" : Str), ("Unlike" : Str), ("TooGreat" : Str), ("TooLong" : Str), ("CapacityExceeded" : Str), ("Missing" : Str), ("UnknownName" : Str), ("NothingLeft" : Str), ("_law_bag" : Str), ("_law_pull" : Str), ("_law_of" : Str), ("_law_same" : Str), ("_law_field" : Str), ("_law_codes" : Str), ("_law_errors" : Str), ("_law_sorts" : Str)]
theorem run (w : World) : HandSHeadRun.RunEq R (PySem.W.view R.prog [29]) hk ob 9660 loose w := by
  intro os
  kernel_rfl
end
end Law

/-! Dn, part KT: enumerate of a tuple. -/
namespace DnQ
open PySem
open Sem (wp)
open AutoSeq1 (wpAny_loadPart')
theorem meets_enum_tup (l : Addr) (items : Array Value) (n : Nat) (dct : Option Addr) (sl : Array (Option Value)) :
    Meets (Builtin.«enumerate.__new__» ⟨[.type "enumerate", .ref l], []⟩) (fun _ R s => s.heap.get? l = some { cls := .type "tuple", dict := dct, data := .seq items n, slots := sl } ∧
      R (.ok (.ret (.ref (s.heap.push { cls := .type "tuple_iterator", data := .fields #[.ref l, .int 0 0] }).objs.size)))
        { s with heap := (s.heap.push { cls := .type "tuple_iterator", data := .fields #[.ref l, .int 0 0] }).push { cls := .type "enumerate", data := .fields #[.none, .bool false, .ref s.heap.objs.size, rawInt 0, .none, .none] } }) :=
  .of_wp fun prog w A R s h => by
    obtain ⟨hp, g, d, tk, os⟩ := s; obtain ⟨hl, h⟩ := h
    have hsub := sub_enumerate
    have hL : Heap.IsTuple (Shared.heap ⟨hp, g, d, tk, os⟩) l items := ⟨_, hl, rfl, n, rfl⟩
    wp_walk using wpAny_loadPart' hl
    refine wpAny_stack_any fun st => wpAny_pure ?_
    split
    · rename_i c _ _ _ _ _
      cases (c == Value.type "enumerate")
      · wp_walk using wpAny_loadPart' hl, wpAny_pyIter_tuple hL
        exact ⟨_, rfl, h⟩
      · wp_walk using wpAny_loadPart' hl, wpAny_pyIter_tuple hL
        exact ⟨_, rfl, h⟩
    · wp_walk using wpAny_loadPart' hl, wpAny_pyIter_tuple hL
      exact ⟨_, rfl, h⟩
section
variable {prog : Program} {w : World} {A : Around} {E : Value → Shared → Prop} {s : Shared}
theorem call_enum_tup {l : Addr} {items : Array Value} {Q : Value → Shared → Prop} (hL : s.heap.IsTuple l items)
    (h : ∀ h', IsEnum h' (s.heap.objs.size + 1) s.heap.objs.size 0 .none → h'.IsTupleIter s.heap.objs.size l 0 → h'.objs.size = s.heap.objs.size + 2 →
      (∀ b o, s.heap.get? b = some o → h'.get? b = some o) → Q (.ref (s.heap.objs.size + 1)) { s with heap := h' }) :
    wpAny (model prog w) A (call (.type "enumerate") [.ref l]) Q E s := by
  obtain ⟨⟨c, dct, dt, sl⟩, hl, hc, n, hd⟩ := hL
  replace hc : c = .type "tuple" := hc
  replace hd : dt = .seq items n := hd
  subst hc hd
  refine callType_new F.called_enumerate (by decide) (F.typeCall_enumerate_1 _) (F.newCall_enumerate_1 _) (fun obj => F.args_object_init_2 obj _) F.entry_enumerate_new
    (meets_enum_tup l items n dct sl) ⟨hl, ?_⟩
  have hz : (s.heap.push { cls := .type "tuple_iterator", data := .fields #[.ref l, .int 0 0] }).objs.size = s.heap.objs.size + 1 := Heap.size_push ..
  show _ ∧ _
  rw [hz]
  have he : IsEnum ((s.heap.push { cls := .type "tuple_iterator", data := .fields #[.ref l, .int 0 0] }).push
      { cls := .type "enumerate", data := .fields #[.none, .bool false, .ref s.heap.objs.size, rawInt 0, .none, .none] }) (s.heap.objs.size + 1) s.heap.objs.size 0 .none := by
    have := Heap.get?_push_size (s.heap.push { cls := .type "tuple_iterator", data := .fields #[.ref l, .int 0 0] })
      (o := { cls := .type "enumerate", data := .fields #[.none, .bool false, .ref s.heap.objs.size, rawInt 0, .none, .none] }) rfl
    rw [hz] at this; exact this
  refine ⟨⟨_, he, rfl⟩, h _ he ⟨_, Heap.get?_push_of_some _ (Heap.get?_push_size _ rfl), rfl, rfl⟩ (by rw [Heap.size_push, hz]) fun b o x => Heap.get?_push_of_some _ (Heap.get?_push_of_some _ x)⟩
theorem draws_tup {it l : Addr} {items : Array Value} (hne : l ≠ it) (hh : A.handled = none) : Draws prog w A it [it, l] items.size (fun i x => items[i]? = some x) (fun i h => h.IsTupleIter it l i ∧ h.IsTuple l items) where
  live := fun i h st => let ⟨⟨o, ho, _⟩, _⟩ := st; ⟨o, ho⟩
  frame := fun i h h' st k => by
    obtain ⟨⟨o, ho, r⟩, ⟨o2, ho2, r2⟩⟩ := st
    exact ⟨⟨o, k it (by simp) _ ho, r⟩, ⟨o2, k l (by simp) _ ho2, r2⟩⟩
  item := fun i s Q E hi st hQ => by
    refine RZ.nextOf_tuple_item st.1 st.2 (x := items[i]) (by simp [hi]) fun h' hit sb => ?_
    have := hQ items[i] h' s.toks (by simp [hi]) ⟨hit, ?_⟩ sb
    · exact this
    · obtain ⟨o2, ho2, r2⟩ := st.2
      exact ⟨o2, (sb.2 l hne).trans ho2, r2⟩
  done := fun s Q E st hE => RZ.nextOf_tuple_end hh st.1 st.2 (by simp) hE
theorem draws_end {it l : Addr} {items : Array Value} {n : Nat} (hn : items[n]? = none) (hh : A.handled = none) : Draws prog w A it [it, l] n (fun _ _ => True) (fun i h => i = n ∧ h.IsTupleIter it l i ∧ h.IsTuple l items) where
  live := fun i h st => let ⟨_, ⟨o, ho, _⟩, _⟩ := st; ⟨o, ho⟩
  frame := fun i h h' st k => by
    obtain ⟨e, ⟨o, ho, r⟩, ⟨o2, ho2, r2⟩⟩ := st
    exact ⟨e, ⟨o, k it (by simp) _ ho, r⟩, ⟨o2, k l (by simp) _ ho2, r2⟩⟩
  item := fun i s Q E hi st hQ => absurd st.1 (Nat.ne_of_lt hi)
  done := fun s Q E st hE => RZ.nextOf_tuple_end hh st.2.1 st.2.2 hn hE
end
end DnQ
namespace L2
open PySem PySem.Spec PyProof.Rows
/-- the tuple at a, each item in a new pair -/
def IteT (K : PySem.W.Frag) (a : Addr) : It :=
  ⟨fun i H => ∃ (xs : List V) (x : V), SqT K H a xs ∧ xs[i]? = some x, fun i H v H' => ∃ T x, v = .ref T ∧ H T = none ∧ H' = upd H T (.tup [.int (i : Nat), x]) ∧ ∀ xs, SqT K H a xs → xs[i]? = some x, fun i H => ∃ xs : List V, SqT K H a xs ∧ xs.length ≤ i⟩
theorem turn_enumT {P : Program} {w : World} {K : PySem.W.Frag} {elts : List Expr} {kk : Nat} {tpos : Pos} (a e it : Addr) (hae : a ≠ e) (hai : a ≠ it) :
    Turn P w K (.Tuple elts kk tpos) (IteT K a) [e, it] e (fun i h => (∃ old, IsEnum h e it ((i : Nat) : Int) old) ∧ h.IsTupleIter it a i ∧ e ≠ it) where
  mem := by simp
  obj := fun i h st b hb => by
    obtain ⟨⟨old, he⟩, ⟨o, ho, hc, hd⟩, _⟩ := st
    have e' : b = e ∨ b = it := by simpa using hb
    rcases e' with z | z
    · rw [z]; exact ⟨_, he, fun v q => nomatch q⟩
    · rw [z]; exact ⟨o, ho, fun v q => by rw [hd] at q; cases q⟩
  keep := fun i h h' st k => let ⟨⟨old, he⟩, ⟨o, ho, r⟩, hne⟩ := st; ⟨⟨old, k e (by simp) _ he⟩, ⟨o, k it (by simp) _ ho, r⟩, hne⟩
  item := by
    intro X hP hw hK hc i pins s σ H E I hf st hg
    subst hP hw hK
    obtain ⟨⟨old, he⟩, hit, hne⟩ := st
    obtain ⟨xs, x, hq, hx⟩ := hg
    obtain ⟨its, rv, p, hz⟩ := I.tuple hq
    obtain ⟨u, hu, ru⟩ := rv.get hx
    have hel : e < s.heap.objs.size := Heap.lt_size he
    have hil : it < s.heap.objs.size := by obtain ⟨_, q, _⟩ := hit; exact Heap.lt_size q
    have hlt : i < its.toArray.size := by
      have := (List.getElem?_eq_some_iff.mp hu).1
      simpa using this
    refine wpAny_pyNext_enum_itemD (DnQ.draws_tup hai (by exact I.ok.hd hc)) he ⟨hit, p⟩ hlt hne (by simp [hne, Ne.symm hae]) fun x' h' tk hP' ho hst hT hsz hk => ?_
    have hx' : x' = u := by
      have e1 : its.toArray[i]? = some u := by simpa using hu
      rw [e1] at hP'
      exact (Option.some.inj hP').symm
    subst hx'
    refine ⟨_, rfl, wpAny_letOwnedTupleGo_enum (s := { s with heap := h', toks := tk + 1 }) ho fun h'' he' sb => ?_⟩
    have hT2 : h''.get? s.heap.objs.size = some { cls := .type "tuple", data := .seq #[.int i tk, x'] } := (sb.2 _ (Nat.ne_of_gt hel)).trans hT
    have new : ObjOk X.prog X.w (upd H s.heap.objs.size (.tup [.int (i : Nat), x])) h'' s.heap.objs.size (.tup [.int (i : Nat), x]) :=
      ⟨by show 2 ≤ sizeLine; decide, [.int i tk, x'], .cons ⟨_, rfl⟩ (.cons ru .nil), ⟨_, hT2, rfl, _, rfl⟩⟩
    have I1 : Inv X pins σ (upd H s.heap.objs.size (.tup [.int (i : Nat), x])) { s with heap := h'', toks := tk + 1 } :=
      I.turnedNew (ch := [e, it]) (fun b ob hb q => (sb.2 b (fun z => hb (by simp [z]))).trans (hk b ob (fun z => hb (by simp [z])) (fun z => hb (by simp [z])) q)) hf (Nat.le_refl _) new
    refine ⟨.ref s.heap.objs.size, _, I1, rfl, ⟨_, x, rfl, I.hok.fresh (Nat.le_refl _), rfl, fun ys hy => ?_⟩, ⟨⟨x', ?_⟩, ?_, hne⟩, fun b hb => ?_⟩
    · rw [I.tuple_inj hy hq]; exact hx
    · have e1 : ((i + 1 : Nat) : Int) = (i : Int) + 1 := by omega
      rw [e1]; exact he'
    · obtain ⟨o, ho, r⟩ := hst.1
      exact ⟨o, (sb.2 it (Ne.symm hne)).trans ho, r⟩
    · have hb' : b < s.heap.objs.size := by
        have e' : b = e ∨ b = it := by simpa using hb
        rcases e' with z | z
        · rw [z]; exact hel
        · rw [z]; exact hil
      rw [upd_ne (Nat.ne_of_lt hb')]
      exact (hf b hb).1
  done := by
    intro X hP hw hK hc i pins s σ H E I hf st hg
    subst hP hw hK
    obtain ⟨⟨old, he⟩, hit, hne⟩ := st
    obtain ⟨xs, hq, hx⟩ := hg
    obtain ⟨its, rv, p, hz⟩ := I.tuple hq
    obtain ⟨f0, f1, f2, f3, f4, f5⟩ := hf it (by simp)
    have hl := rv.length
    exact wpAny_pyNext_enum_endD (DnQ.draws_end (items := its.toArray) (n := i) (by simp; omega) (by exact I.ok.hd hc)) he ⟨rfl, hit, p⟩ fun h' eb => ⟨rfl, I.turned (t' := s.toks) (fun b o hb q => eb b o hb q) f0 f1 f3 f4 f5⟩
  self := fun A i s Q E st h => let ⟨⟨_, he⟩, _⟩ := st; wpAny_pyIter_enum he h
def iEnumT (K : PySem.W.Frag) (ta : TA) : TI := fun σ H R => ta σ H fun vs H1 => ∃ a xs, vs = [.ref a] ∧ SqT K H1 a xs ∧ R (IteT K a) H1
theorem pi_enumT {X : Cx} {e : Expr} {ta : TA} {p pos tpos : Pos} {elts : List Expr} {kk : Nat} (hg : Gl X "enumerate") (hm : X.mg "enumerate" = none) (ha : PA X [e] ta) (hs : starEach [e] X.env = [(false, eval e X.env)] := by rfl) :
    PI X (.Tuple elts kk tpos) (.Call (.Name "enumerate" p) [e] [] pos) (iEnumT X.K ta) := by
  refine ⟨fun pins s σ H R I h => ?_⟩
  refine Call_ (ld_blt I hg hm boot_enumerate (PyProof.Rows.callWith_type1 (thn (ha.run pos pins s σ H _ I h) fun us s1 ⟨vs, H1, I1, r1, q1⟩ => ?_) hs rfl))
  obtain ⟨a, xs, ex, hq, q⟩ := q1
  subst ex
  cases r1 with
  | cons r rr =>
    cases rr
    cases r
    obtain ⟨its, rv, p', hz⟩ := I1.tuple hq
    have hal : a < s1.heap.objs.size := by obtain ⟨_, q, _⟩ := p'; exact Heap.lt_size q
    refine DnQ.call_enum_tup p' fun h' he hit hsz hk => wpAny_pyIter_enum he ?_
    have I2 : Inv X pins σ H1 { s1 with heap := h' } := I1.kept (t' := s1.toks) hk
    refine ⟨s1.heap.objs.size + 1, [s1.heap.objs.size + 1, s1.heap.objs.size], _, _, H1, rfl, I2, turn_enumT a (s1.heap.objs.size + 1) s1.heap.objs.size (Nat.ne_of_lt (Nat.lt_succ_of_lt hal)) (Nat.ne_of_lt hal), ⟨⟨.none, he⟩, hit, Nat.succ_ne_self _⟩, fun b hb => ?_, q⟩
    have e' : b = s1.heap.objs.size + 1 ∨ b = s1.heap.objs.size := by simpa using hb
    have hle : s1.heap.objs.size ≤ b := by
      rcases e' with z | z
      · rw [z]; exact Nat.le_add_right _ _
      · rw [z]; exact Nat.le_refl _
    exact I1.fpOk hle (I1.hok.fresh hle)
end L2

/-! Dn, part KZ: zip of any few lists and tuples. -/
namespace DnQ
open PySem
open Sem (wp)
/-- a list (false) or tuple (true), its iterator -/
def isSq (k : Bool) (h : Heap) (a : Addr) (items : Array Value) : Prop := if k then h.IsTuple a items else h.IsList a items
def isIt (k : Bool) (h : Heap) (it a : Addr) (i : Nat) : Prop := if k then h.IsTupleIter it a i else h.IsListIter it a i
theorem isSq.at {k : Bool} {h h' : Heap} {a : Addr} {items : Array Value} (x : isSq k h a items) (e : ∀ o, h.get? a = some o → h'.get? a = some o) : isSq k h' a items := by
  cases k with
  | false => exact Heap.IsList.at x e
  | true =>
    obtain ⟨o, ho, r⟩ := x
    exact ⟨o, e o ho, r⟩
theorem isIt.at {k : Bool} {h h' : Heap} {it a : Addr} {i : Nat} (x : isIt k h it a i) (e : ∀ o, h.get? it = some o → h'.get? it = some o) : isIt k h' it a i := by
  cases k with
  | false => exact Heap.IsListIter.at x e
  | true =>
    obtain ⟨o, ho, r⟩ := x
    exact ⟨o, e o ho, r⟩
section
variable {prog : Program} {w : World} {A : Around} {E : Value → Shared → Prop} {s : Shared}
theorem next_k {k : Bool} {it l : Addr} {i : Nat} {items : Array Value} {Q : Value → Shared → Prop} (hh : A.handled = none) (hit : isIt k s.heap it l i) (hl : isSq k s.heap l items)
    (hQ : ∀ x h', items[i]? = some x → isIt k h' it l (i + 1) → Heap.SameBut it s.heap h' → Q x { s with heap := h' })
    (hE : items[i]? = none → ∀ h' e, Heap.ExtBut it s.heap h' → (∃ o, h'.get? e = some o ∧ o.cls = .type "StopIteration") → E (.ref e) { s with heap := h' }) :
    wpAny (model prog w) A (Builtin.SmallTypes.nextOf (.ref it)) Q E s := by
  cases e : items[i]? with
  | none =>
    cases k with
    | false => exact wpAny_nextOf_list_end hh hit hl e (hE e)
    | true => exact RZ.nextOf_tuple_end hh hit hl e (hE e)
  | some x =>
    cases k with
    | false => exact wpAny_nextOf_list_item hit hl e fun h' a b => hQ x h' e a b
    | true => exact RZ.nextOf_tuple_item hit hl e fun h' a b => hQ x h' e a b
abbrev Sc := Bool × Addr × Array Value
def itsV (N n : Nat) : List Value := (List.range n).map fun j => Value.ref (N + j)
/-- the sources stand -/
def Srcs (S : List Sc) (N : Nat) (h : Heap) : Prop := ∀ (j : Nat) (c : Sc), S[j]? = some c → isSq c.1 h c.2.1 c.2.2 ∧ c.2.1 < N
/-- a zip over the sources S, its cells N, N + 1 .., i items were drawn -/
structure ZS (S : List Sc) (N : Nat) (i : Nat) (f0 : Value) (f : Bool) (h : Heap) : Prop where
  z : h.get? (N + S.length + 2) = some { cls := .type "zip", dict := none, data := .fields #[f0, .bool f, .bool false, .ref (N + S.length), .ref (N + S.length + 1)], slots := #[] }
  ti : h.get? (N + S.length) = some { cls := .type "tuple", data := .seq (itsV N S.length).toArray }
  to : ∃ vs : List Value, vs.length = S.length ∧ h.get? (N + S.length + 1) = some { cls := .type "tuple", data := .seq vs.toArray }
  at_ : ∀ (j : Nat) (c : Sc), S[j]? = some c → isIt c.1 h (N + j) c.2.1 i
/-- no cell of it -/
def Off (S : List Sc) (N : Nat) (c : Addr) : Prop := c < N ∨ N + S.length + 3 ≤ c
theorem nextTail {S : List Sc} {j : Nat} {c : Sc} (h : S[j]? = some c) : j < S.length := (List.getElem?_eq_some_iff.mp h).1
/-- midway: j sources were asked -/
structure ZM (S : List Sc) (N : Nat) (i : Nat) (j : Nat) (h0 h : Heap) : Prop where
  size : h.objs.size = h0.objs.size
  ti : h.get? (N + S.length) = some { cls := .type "tuple", data := .seq (itsV N S.length).toArray }
  at_ : ∀ (j' : Nat) (c : Sc), S[j']? = some c → isIt c.1 h (N + j') c.2.1 (if j' < j then i + 1 else i)
  srcs : Srcs S N h
  off : ∀ c o, Off S N c → h0.get? c = some o → h.get? c = some o
theorem ZM.draw {S : List Sc} {N i j : Nat} {h0 h h' : Heap} {c : Sc} (m : ZM S N i j h0 h) (e : S[j]? = some c) (a : isIt c.1 h' (N + j) c.2.1 (i + 1)) (b : Heap.SameBut (N + j) h h') : ZM S N i (j + 1) h0 h' where
  size := b.1.trans m.size
  ti := (b.2 (N + S.length) (fun z => Nat.ne_of_gt (nextTail e) (Nat.add_left_cancel z))).trans m.ti
  at_ := fun j' c' e' => by
    by_cases q : j' = j
    · subst q
      rw [e] at e'
      cases e'
      rw [if_pos (Nat.lt_succ_self _)]
      exact a
    · have := m.at_ j' c' e'
      have z : (if j' < j + 1 then i + 1 else i) = if j' < j then i + 1 else i := by
        by_cases q2 : j' < j
        · rw [if_pos q2, if_pos (by omega)]
        · rw [if_neg q2, if_neg (by omega)]
      rw [z]
      exact this.at fun o ho => (b.2 (N + j') (by intro z; exact q (Nat.add_left_cancel z))).trans ho
  srcs := fun j' c' e' => by
    obtain ⟨h1, h2⟩ := m.srcs j' c' e'
    exact ⟨h1.at fun o ho => (b.2 c'.2.1 (Nat.ne_of_lt (Nat.lt_of_lt_of_le h2 (Nat.le_add_right _ _)))).trans ho, h2⟩
  off := fun x o hx ho => (b.2 x (by
    have := nextTail e
    unfold Off at hx
    intro z
    subst z
    rcases hx with q | q
    · exact Nat.not_lt.mpr (Nat.le_add_right _ _) q
    · have : N + S.length + 3 ≤ N + j := q
      omega)).trans (m.off x o hx ho)
theorem ZM.keep {S : List Sc} {N i j : Nat} {h0 h h' : Heap} (m : ZM S N i j h0 h) (e : h'.objs.size = h.objs.size) (k : ∀ b o, b ≠ N + S.length + 1 → b ≠ N + S.length + 2 → h.get? b = some o → h'.get? b = some o) : ZM S N i j h0 h' where
  size := e.trans m.size
  ti := k _ _ (fun z => by have : S.length = S.length + 1 := Nat.add_left_cancel (show N + S.length = N + (S.length + 1) from z); omega) (fun z => by have : S.length = S.length + 2 := Nat.add_left_cancel (show N + S.length = N + (S.length + 2) from z); omega) m.ti
  at_ := fun j' c e' => (m.at_ j' c e').at fun o ho => k _ _ (fun z => by
      have := nextTail e'
      have : j' = S.length + 1 := Nat.add_left_cancel (show N + j' = N + (S.length + 1) from z)
      omega) (fun z => by
      have := nextTail e'
      have : j' = S.length + 2 := Nat.add_left_cancel (show N + j' = N + (S.length + 2) from z)
      omega) ho
  srcs := fun j' c e' => by
    obtain ⟨h1, h2⟩ := m.srcs j' c e'
    exact ⟨h1.at fun o ho => k _ _ (Nat.ne_of_lt (Nat.lt_of_lt_of_le h2 (Nat.le_add_right N (S.length + 1)))) (Nat.ne_of_lt (Nat.lt_of_lt_of_le h2 (Nat.le_add_right N (S.length + 2)))) ho, h2⟩
  off := fun x o hx ho => k _ _ (fun z => by
      subst z
      rcases hx with q | q
      · exact Nat.not_lt.mpr (Nat.le_add_right N (S.length + 1)) q
      · have : S.length + 3 ≤ S.length + 1 := Nat.le_of_add_le_add_left (show N + (S.length + 3) ≤ N + (S.length + 1) from q)
        omega) (fun z => by
      subst z
      rcases hx with q | q
      · exact Nat.not_lt.mpr (Nat.le_add_right N (S.length + 2)) q
      · have : S.length + 3 ≤ S.length + 2 := Nat.le_of_add_le_add_left (show N + (S.length + 3) ≤ N + (S.length + 2) from q)
        omega) (m.off x o hx ho)
theorem updateSeq_list {M : Model} {A : Around} {E : Value → Shared → Prop} {s : Shared} {T : Addr} {vs : List Value} {x : Value} {k : Nat} {Q : Unit → Shared → Prop} (hT : s.heap.get? T = some { cls := .type "tuple", data := .seq vs.toArray }) (hl : vs.length ≤ 1000)
    (h : ∀ h', h'.get? T = some { cls := .type "tuple", data := .seq (vs.set k x).toArray } → Heap.SameBut T s.heap h' → Q () { s with heap := h' }) :
    wpAny M A (updateSeq T (·.setIfInBounds k x)) Q E s := by
  refine wpAny_updateSeq hT rfl (h _ ?_ (Heap.SameBut.update ..)) (by simp; rw [PySem.sizeLine_eq]; omega) (by simp; rw [PySem.sizeLine_eq]; omega)
  rw [Heap.get?_update_self _ hT rfl]
  simp [Obj.mapSeq]
theorem its_get {N n j : Nat} (h : j < n) : (itsV N n)[j]? = some (.ref (N + j)) := by
  unfold itsV
  rw [List.getElem?_map, List.getElem?_range h]
  rfl
theorem its_len {N n : Nat} : (itsV N n).length = n := by unfold itsV; simp
theorem drop_its {N n j : Nat} (h : j < n) : (itsV N n).drop j = .ref (N + j) :: (itsV N n).drop (j + 1) := by
  rw [List.drop_eq_getElem_cons (by rw [its_len]; exact h)]
  have := its_get (N := N) h
  rw [List.getElem?_eq_getElem (by rw [its_len]; exact h)] at this
  rw [Option.some.inj this]
section
variable {prog : Program} {w : World} {A : Around} {E : Value → Shared → Prop} {s : Shared} {S : List Sc} {N i : Nat} {f : Bool} {f0 : Value}
theorem alive_any {a : Addr} {Q : Option Obj → Shared → Prop} (h : Q (s.heap.get? a) s) : wpAny (model prog w) A (loadIfAlive a) Q E s := fun _ _ _ => h
theorem free_ok {z TI TO : Addr} {f0 : Value} {Q : Bool → Shared → Prop} (hz : s.heap.get? z = some { cls := .type "zip", dict := none, data := .fields #[f0, .bool f, .bool false, .ref TI, .ref TO], slots := #[] })
    (h0 : f0 = .none ∨ ∃ T : Addr, f0 = rawInt T ∧ s.heap.get? T = none) (h : Q true s) : wpAny (model prog w) A (Builtin.SmallTypes.ownedTupleIsFree (.ref z)) Q E s := by
  unfold Builtin.SmallTypes.ownedTupleIsFree
  rcases h0 with rfl | ⟨T, rfl, hT⟩
  · exact wpAny_bind (wpAny_field hz rfl (x := .none) rfl (wpAny_pure h))
  · refine wpAny_bind (wpAny_field hz rfl (x := rawInt T) rfl ?_)
    show wpAny _ _ (loadIfAlive ((T : Int).toNat) >>= _) _ _ _
    rw [Int.toNat_natCast]
    refine wpAny_bind (alive_any ?_)
    rw [hT]
    simp only [Option.isNone_none, if_true]
    exact wpAny_pure h
/-- z's tuple is free: asked again -/
theorem zip_free {Q : Value → Shared → Prop} (hh : A.handled = none) (hS : S ≠ []) (hl : S.length ≤ 1000) (hz : ZS S N i f0 f s.heap) (h0 : f0 = .none ∨ ∃ T : Addr, f0 = rawInt T ∧ s.heap.get? T = none) (hs : Srcs S N s.heap)
    (hQ : ∀ (xs : List Value) h', (∀ (j : Nat) (c : Sc), S[j]? = some c → ∃ x, c.2.2[i]? = some x ∧ xs[j]? = some x) → xs.length = S.length → ZS S N (i + 1) (rawInt s.heap.objs.size) false h' → Srcs S N h' →
      h'.get? s.heap.objs.size = some { cls := .type "tuple", data := .seq xs.toArray } → h'.objs.size = s.heap.objs.size + 1 → (∀ c o, Off S N c → s.heap.get? c = some o → h'.get? c = some o) → Q (.ref s.heap.objs.size) { s with heap := h' })
    (hE : (∃ (j : Nat) (c : Sc), S[j]? = some c ∧ c.2.2[i]? = none) → ∀ h' e, (∀ c o, Off S N c → s.heap.get? c = some o → h'.get? c = some o) → (∃ o, h'.get? e = some o ∧ o.cls = .type "StopIteration") → E (.ref e) { s with heap := h' }) :
    wpAny (model prog w) A (Builtin.«zip.__next__» ⟨[.ref (N + S.length + 2)], []⟩) (fun fin s' => ∃ v, fin = .done (.ret v) ∧ Q v s') E s := by
  obtain ⟨hz, hti, ⟨vs, hvl, hto⟩, hat⟩ := hz
  show wpAny _ _ (field (.ref _) 2 >>= _) _ _ _
  refine wpAny_bind (wpAny_field hz rfl (x := .bool false) rfl ?_)
  show wpAny _ _ (field (.ref _) 3 >>= _) _ _ _
  refine wpAny_bind (wpAny_field hz rfl (x := .ref (N + S.length)) rfl ?_)
  refine wpAny_bind (wpAny_seqItems hti rfl ?_)
  have ne : (itsV N S.length).toArray.isEmpty = false := by
    cases S with
    | nil => exact absurd rfl hS
    | cons a l => simp [itsV]
  simp only [ne, Bool.false_eq_true, if_false]
  show wpAny _ _ (Builtin.SmallTypes.ownedTupleIsFree (.ref _) >>= _) _ _ _
  refine wpAny_bind (free_ok hz h0 ?_)
  simp only [if_true]
  refine wpAny_bind (wpAny_rule ?_)
  refine wpAny_bind (wpAny_field hz rfl (x := .ref (N + S.length + 1)) rfl ?_)
  refine wpAny_bind (wpAny_setField_rec hz (by simp) fun h1 hz1 hs1 => ?_)
  refine wpAny_bind ?_
  have l0 : S.length < S.length + 1 := Nat.lt_succ_self _
  have nz : ∀ k, k ≤ S.length + 1 → N + k ≠ N + S.length + 2 := fun k hk z => by
    have : k = S.length + 2 := Nat.add_left_cancel (show N + k = N + (S.length + 2) from z)
    omega
  have m0 : ZM S N i 0 s.heap h1 := {
    size := hs1.1
    ti := (hs1.2 (N + S.length) (nz S.length (by omega))).trans hti
    at_ := fun j c e => by
      have lj := nextTail e
      exact (hat j c e).at fun o ho => (hs1.2 (N + j) (nz j (by omega))).trans ho
    srcs := fun j c e => by
      obtain ⟨q1, q2⟩ := hs j c e
      exact ⟨q1.at fun o ho => (hs1.2 c.2.1 (Nat.ne_of_lt (Nat.lt_of_lt_of_le q2 (Nat.le_add_right N (S.length + 2))))).trans ho, q2⟩
    off := fun c o hc ho => (hs1.2 c (by
      intro z
      subst z
      rcases hc with q | q
      · exact Nat.not_lt.mpr (Nat.le_add_right N (S.length + 2)) q
      · exact Nat.not_succ_le_self _ q)).trans ho }
  refine wpAny_forIn_list _ (fun rest b s' => b = (none, ()) ∧ ∃ (j : Nat) (h : Heap), rest = ((itsV N S.length).drop j).zipIdx j ∧ j ≤ S.length ∧ s' = { s with heap := h } ∧ ZM S N i j s.heap h ∧
    h.get? (N + S.length + 2) = some { cls := .type "zip", dict := none, data := .fields #[.ellipsis, .bool f, .bool false, .ref (N + S.length), .ref (N + S.length + 1)], slots := #[] } ∧
    ∃ ws : List Value, ws.length = S.length ∧ h.get? (N + S.length + 1) = some { cls := .type "tuple", data := .seq ws.toArray } ∧ ∀ (j' : Nat) (c : Sc), j' < j → S[j']? = some c → ∃ x, c.2.2[i]? = some x ∧ ws[j']? = some x) _ ?_ ?_ _ _
    ⟨rfl, 0, h1, rfl, Nat.zero_le _, rfl, m0, hz1, vs, hvl, (hs1.2 (N + S.length + 1) (nz (S.length + 1) (by omega))).trans hto, fun _ _ z => absurd z (Nat.not_lt_zero _)⟩
  · rintro x rest b s' ⟨rfl, j, h, er, hj, rfl, m, hz2, ws, hw, hto2, hws⟩
    have lj : j < S.length := by
      rcases Nat.lt_or_ge j S.length with q | q
      · exact q
      · rw [List.drop_of_length_le (by rw [its_len]; exact q)] at er
        cases er
    rw [drop_its lj, List.zipIdx_cons] at er
    injection er with e1 e2
    subst e1 e2
    obtain ⟨c, hc⟩ : ∃ c, S[j]? = some c := ⟨_, List.getElem?_eq_getElem lj⟩
    obtain ⟨sq, slt⟩ := m.srcs j c hc
    have it0 := m.at_ j c hc
    rw [if_neg (Nat.lt_irrefl _)] at it0
    refine wpAny_bind (wpAny_onRaise ?_)
    show wpAny _ _ (Builtin.SmallTypes.nextOf (.ref (N + j)) >>= _) _ _ _
    have zj : N + S.length + 2 ≠ N + j := fun z => nz j (by omega) z.symm
    have tj : N + S.length + 1 ≠ N + j := fun z => by
      have : S.length + 1 = j := Nat.add_left_cancel (show N + (S.length + 1) = N + j from z)
      omega
    refine wpAny_bind (next_k hh it0 sq (fun x h2 hx hit2 hb2 => wpAny_pure ?_) fun hn h2 e hb2 he => ?_)
    · have m2 := m.draw hc hit2 hb2
      have hz3 := (hb2.2 _ zj).trans hz2
      have hto3 := (hb2.2 _ tj).trans hto2
      refine wpAny_bind (wpAny_seqItems hto3 rfl ?_)
      refine wpAny_bind (updateSeq_list hto3 (by omega) fun h3 hto4 hb3 => ?_)
      refine wpAny_bind (wpAny_letGo (wpAny_pure ?_))
      refine ⟨rfl, j + 1, h3, rfl, lj, rfl, m2.keep hb3.1 fun b o n1 n2 ho => (hb3.2 b n1).trans ho, (hb3.2 _ (fun z => nz (S.length + 1) (by omega) z.symm)).trans hz3, ws.set j x, by rw [List.length_set]; exact hw, hto4, fun j' c' hj' hc' => ?_⟩
      by_cases q : j' = j
      · subst q
        rw [hc] at hc'
        cases hc'
        exact ⟨x, hx, List.getElem?_set_self (by rw [hw]; exact lj)⟩
      · obtain ⟨y, y1, y2⟩ := hws j' c' (by omega) hc'
        exact ⟨y, y1, by rw [List.getElem?_set_ne (Ne.symm q)]; exact y2⟩
    · have hz3 := hb2 _ _ zj hz2
      obtain ⟨oe, hoe, hce⟩ := he
      have ez : e ≠ N + S.length + 2 := fun z => by
        subst z
        rw [hz3] at hoe
        cases hoe
        simp at hce
      refine wpAny_setField_rec hz3 (by simp) fun h3 _ hb3 => hE ⟨j, c, hc, hn⟩ h3 e (fun b o hb ho => ?_) ⟨oe, (hb3.2 e ez).trans hoe, hce⟩
      have n1 : b ≠ N + j := fun z => by
        subst z
        rcases hb with q | q
        · exact Nat.not_lt.mpr (Nat.le_add_right N j) q
        · have : S.length + 3 ≤ j := Nat.le_of_add_le_add_left (show N + (S.length + 3) ≤ N + j from q)
          omega
      have n2 : b ≠ N + S.length + 2 := fun z => by
        subst z
        rcases hb with q | q
        · exact Nat.not_lt.mpr (Nat.le_add_right N (S.length + 2)) q
        · exact Nat.not_succ_le_self _ q
      exact (hb3.2 b n2).trans (hb2 b o n1 (m.off b o hb ho))
  · rintro b s' ⟨rfl, j, h, er, hj, rfl, m, hz2, ws, hw, hto2, hws⟩
    have ej : j = S.length := by
      rcases Nat.lt_or_ge j S.length with q | q
      · rw [drop_its q, List.zipIdx_cons] at er
        cases er
      · exact Nat.le_antisymm hj q
    subst ej
    refine wpAny_bind (wpAny_seqItems hto2 rfl ?_)
    refine wpAny_bind (wpAny_newTuple ?_ (by
      show ws.length ≤ sizeLine
      rw [hw, PySem.sizeLine_eq]
      omega))
    show wpAny _ _ (Builtin.SmallTypes.ownedTupleHandOut (.ref _) (.ref h.objs.size) >>= _) _ _ _
    refine wpAny_bind ?_
    unfold Builtin.SmallTypes.ownedTupleHandOut
    have hz6 : (h.push { cls := .type "tuple", data := .seq ws.toArray }).get? (N + S.length + 2) = some _ := Heap.get?_push_of_some _ hz2
    refine wpAny_bind (wpAny_setField_rec hz6 (by simp) fun h7 hz7 hb7 => ?_)
    refine wpAny_setField_rec hz7 (by simp) fun h8 hz8 hb8 => ?_
    have zl : N + S.length + 2 < h.objs.size := Heap.lt_size hz2
    have zne : h.objs.size ≠ N + S.length + 2 := Nat.ne_of_gt zl
    have up : ∀ c o, c ≠ N + S.length + 2 → h.get? c = some o → h8.get? c = some o := fun c o c1 e => (hb8.2 c c1).trans ((hb7.2 c c1).trans (Heap.get?_push_of_some _ e))
    have hT : h8.get? h.objs.size = some { cls := .type "tuple", data := .seq ws.toArray } := (hb8.2 _ zne).trans ((hb7.2 _ zne).trans (Heap.get?_push_size _ rfl))
    have sz : h8.objs.size = h.objs.size + 1 := by rw [hb8.1, hb7.1, Heap.size_push]
    refine wpAny_pure ⟨_, rfl, ?_⟩
    show Q (.ref h.objs.size) _
    rw [m.size] at hT sz hz8 ⊢
    refine hQ ws h8 (fun j c e => hws j c (nextTail e) e) hw ⟨hz8, up _ _ (nz S.length (by omega)) m.ti, ⟨ws, hw, up _ _ (nz (S.length + 1) (by omega)) hto2⟩, fun j c e => ?_⟩ (fun j c e => ?_) hT sz fun c o hc ho => up c o (fun z => ?_) (m.off c o hc ho)
    · have q := m.at_ j c e
      rw [if_pos (nextTail e)] at q
      exact q.at fun o ho => up _ o (nz j (Nat.le_succ_of_le (Nat.le_of_lt (nextTail e)))) ho
    · obtain ⟨q1, q2⟩ := m.srcs j c e
      exact ⟨q1.at fun o ho => up _ o (Nat.ne_of_lt (Nat.lt_of_lt_of_le q2 (Nat.le_add_right N (S.length + 2)))) ho, q2⟩
    · subst z
      rcases hc with q | q
      · exact Nat.not_lt.mpr (Nat.le_add_right N (S.length + 2)) q
      · exact Nat.not_succ_le_self _ q
/-- z's tuple is still out -/
theorem zip_held {T : Addr} {oT : Obj} {Q : Value → Shared → Prop} (hh : A.handled = none) (hS : S ≠ []) (hl : S.length ≤ 1000) (hz : ZS S N i (rawInt T) f s.heap) (hT : s.heap.get? T = some oT) (hs : Srcs S N s.heap)
    (hQ : ∀ (xs : List Value) h', (∀ (j : Nat) (c : Sc), S[j]? = some c → ∃ x, c.2.2[i]? = some x ∧ xs[j]? = some x) → xs.length = S.length → ZS S N (i + 1) (rawInt T) true h' → Srcs S N h' →
      h'.get? s.heap.objs.size = some { cls := .type "tuple", data := .seq xs.toArray } → h'.objs.size = s.heap.objs.size + 1 → (∀ c o, Off S N c → s.heap.get? c = some o → h'.get? c = some o) → Q (.ref s.heap.objs.size) { s with heap := h' })
    (hE : (∃ (j : Nat) (c : Sc), S[j]? = some c ∧ c.2.2[i]? = none) → ∀ h' e, (∀ c o, Off S N c → s.heap.get? c = some o → h'.get? c = some o) → (∃ o, h'.get? e = some o ∧ o.cls = .type "StopIteration") → E (.ref e) { s with heap := h' }) :
    wpAny (model prog w) A (Builtin.«zip.__next__» ⟨[.ref (N + S.length + 2)], []⟩) (fun fin s' => ∃ v, fin = .done (.ret v) ∧ Q v s') E s := by
  obtain ⟨hz, hti, ⟨vs, hvl, hto⟩, hat⟩ := hz
  show wpAny _ _ (field (.ref _) 2 >>= _) _ _ _
  refine wpAny_bind (wpAny_field hz rfl (x := .bool false) rfl ?_)
  show wpAny _ _ (field (.ref _) 3 >>= _) _ _ _
  refine wpAny_bind (wpAny_field hz rfl (x := .ref (N + S.length)) rfl ?_)
  refine wpAny_bind (wpAny_seqItems hti rfl ?_)
  have ne : (itsV N S.length).toArray.isEmpty = false := by
    cases S with
    | nil => exact absurd rfl hS
    | cons a l => simp [itsV]
  simp only [ne, Bool.false_eq_true, if_false]
  have nz : ∀ k, k ≤ S.length + 1 → N + k ≠ N + S.length + 2 := fun k hk z => by
    have : k = S.length + 2 := Nat.add_left_cancel (show N + k = N + (S.length + 2) from z)
    omega
  show wpAny _ _ (Builtin.SmallTypes.ownedTupleIsFree (.ref _) >>= _) _ _ _
  refine wpAny_bind (wpAny_tupleHeld_zip hz hT fun h1 hz1 hs1 => ?_)
  simp only [Bool.false_eq_true, if_false]
  have m0 : ZM S N i 0 s.heap h1 := {
    size := hs1.1
    ti := (hs1.2 (N + S.length) (nz S.length (by omega))).trans hti
    at_ := fun j c e => by
      have lj := nextTail e
      exact (hat j c e).at fun o ho => (hs1.2 (N + j) (nz j (by omega))).trans ho
    srcs := fun j c e => by
      obtain ⟨q1, q2⟩ := hs j c e
      exact ⟨q1.at fun o ho => (hs1.2 c.2.1 (Nat.ne_of_lt (Nat.lt_of_lt_of_le q2 (Nat.le_add_right N (S.length + 2))))).trans ho, q2⟩
    off := fun c o hc ho => (hs1.2 c (by
      intro z
      subst z
      rcases hc with q | q
      · exact Nat.not_lt.mpr (Nat.le_add_right N (S.length + 2)) q
      · exact Nat.not_succ_le_self _ q)).trans ho }
  refine wpAny_bind ?_
  rw [← Array.forIn_toList]
  refine wpAny_forIn_list _ (fun rest b s' => ∃ (j : Nat) (h : Heap) (ws : List Value), b = (none, ws.toArray) ∧ rest = (itsV N S.length).drop j ∧ j ≤ S.length ∧ s' = { s with heap := h } ∧ ZM S N i j s.heap h ∧
    h.get? (N + S.length + 2) = some { cls := .type "zip", dict := none, data := .fields #[rawInt T, .bool true, .bool false, .ref (N + S.length), .ref (N + S.length + 1)], slots := #[] } ∧
    h.get? (N + S.length + 1) = some { cls := .type "tuple", data := .seq vs.toArray } ∧
    ws.length = j ∧ ∀ (j' : Nat) (c : Sc), j' < j → S[j']? = some c → ∃ x, c.2.2[i]? = some x ∧ ws[j']? = some x) _ ?_ ?_ _ _
    ⟨0, h1, [], rfl, rfl, Nat.zero_le _, rfl, m0, hz1, (hs1.2 (N + S.length + 1) (nz (S.length + 1) (by omega))).trans hto, rfl, fun _ _ z => absurd z (Nat.not_lt_zero _)⟩
  · rintro x rest b s' ⟨j, h, ws, rfl, er, hj, rfl, m, hz2, hto2, hw, hws⟩
    have lj : j < S.length := by
      rcases Nat.lt_or_ge j S.length with q | q
      · exact q
      · rw [List.drop_of_length_le (by rw [its_len]; exact q)] at er
        cases er
    rw [drop_its lj] at er
    injection er with e1 e2
    subst e1 e2
    obtain ⟨c, hc⟩ : ∃ c, S[j]? = some c := ⟨_, List.getElem?_eq_getElem lj⟩
    obtain ⟨sq, slt⟩ := m.srcs j c hc
    have it0 := m.at_ j c hc
    rw [if_neg (Nat.lt_irrefl _)] at it0
    have zj : N + S.length + 2 ≠ N + j := fun z => nz j (by omega) z.symm
    have tj : N + S.length + 1 ≠ N + j := fun z => by
      have : S.length + 1 = j := Nat.add_left_cancel (show N + (S.length + 1) = N + j from z)
      omega
    refine wpAny_bind (wpAny_holding ?_)
    show wpAny _ _ (Builtin.SmallTypes.nextOf (.ref (N + j)) >>= _) _ _ _
    refine wpAny_bind (next_k hh it0 sq (fun x h2 hx hit2 hb2 => wpAny_pure ?_) fun hn h2 e hb2 he => ?_)
    · have m2 := m.draw hc hit2 hb2
      refine wpAny_pure ?_
      refine ⟨j + 1, h2, ws ++ [x], by simp, rfl, lj, rfl, m2, (hb2.2 _ zj).trans hz2, (hb2.2 _ tj).trans hto2, by simp [hw], fun j' c' hj' hc' => ?_⟩
      by_cases q : j' = j
      · subst q
        rw [hc] at hc'
        cases hc'
        exact ⟨x, hx, by rw [List.getElem?_append_right (by omega), hw, Nat.sub_self]; rfl⟩
      · obtain ⟨y, y1, y2⟩ := hws j' c' (by omega) hc'
        exact ⟨y, y1, by rw [List.getElem?_append_left (by omega)]; exact y2⟩
    · obtain ⟨oe, hoe, hce⟩ := he
      refine hE ⟨j, c, hc, hn⟩ h2 e (fun b o hb ho => ?_) ⟨oe, hoe, hce⟩
      have n1 : b ≠ N + j := fun z => by
        subst z
        rcases hb with q | q
        · exact Nat.not_lt.mpr (Nat.le_add_right N j) q
        · have : S.length + 3 ≤ j := Nat.le_of_add_le_add_left (show N + (S.length + 3) ≤ N + j from q)
          omega
      exact hb2 b o n1 (m.off b o hb ho)
  · rintro b s' ⟨j, h, ws, rfl, er, hj, rfl, m, hz2, hto2, hw, hws⟩
    have ej : j = S.length := by
      rcases Nat.lt_or_ge j S.length with q | q
      · rw [drop_its q] at er
        cases er
      · exact Nat.le_antisymm hj q
    subst ej
    show wpAny _ _ (newTuple ws.toArray.toList >>= _) _ _ _
    refine wpAny_bind (wpAny_newTuple ?_ (by
      show ws.length ≤ sizeLine
      rw [hw, PySem.sizeLine_eq]
      omega))
    refine wpAny_pure ⟨_, rfl, ?_⟩
    show Q (.ref h.objs.size) _
    have hp : (h.push { cls := .type "tuple", data := .seq ws.toArray }).get? h.objs.size = some { cls := .type "tuple", data := .seq ws.toArray } := Heap.get?_push_size _ rfl
    have sz : (h.push { cls := .type "tuple", data := .seq ws.toArray }).objs.size = h.objs.size + 1 := Heap.size_push ..
    rw [m.size] at hp sz ⊢
    refine hQ ws _ (fun j c e => hws j c (nextTail e) e) hw ⟨Heap.get?_push_of_some _ hz2, Heap.get?_push_of_some _ m.ti, ⟨vs, hvl, Heap.get?_push_of_some _ hto2⟩, fun j c e => ?_⟩ (fun j c e => ?_) hp sz fun c o hc ho => Heap.get?_push_of_some _ (m.off c o hc ho)
    · have q := m.at_ j c e
      rw [if_pos (nextTail e)] at q
      exact q.at fun o ho => Heap.get?_push_of_some _ ho
    · obtain ⟨q1, q2⟩ := m.srcs j c e
      exact ⟨q1.at fun o ho => Heap.get?_push_of_some _ ho, q2⟩
end
/-- what z's first field is between two turns -/
def Out0 (f0 : Value) : Prop := f0 = .none ∨ ∃ T : Addr, f0 = rawInt T
theorem zip_next {Q : Option Value → Shared → Prop} (hh : A.handled = none) (hS : S ≠ []) (hl : S.length ≤ 1000) (hz : ZS S N i f0 f s.heap) (h0 : Out0 f0) (hs : Srcs S N s.heap)
    (hQ : (∀ (j : Nat) (c : Sc), S[j]? = some c → ∃ x, c.2.2[i]? = some x) → ∀ (xs : List Value) h' (T : Addr) f', (∀ (j : Nat) (c : Sc), S[j]? = some c → ∃ x, c.2.2[i]? = some x ∧ xs[j]? = some x) → xs.length = S.length → ZS S N (i + 1) (rawInt T) f' h' →
      h'.get? s.heap.objs.size = some { cls := .type "tuple", data := .seq xs.toArray } → h'.objs.size = s.heap.objs.size + 1 → (∀ c o, Off S N c → s.heap.get? c = some o → h'.get? c = some o) → Q (some (.ref s.heap.objs.size)) { s with heap := h' })
    (hE : (∃ (j : Nat) (c : Sc), S[j]? = some c ∧ c.2.2[i]? = none) → ∀ h', (∀ c o, Off S N c → s.heap.get? c = some o → h'.get? c = some o) → Q none { s with heap := h' }) :
    wpAny (model prog w) A (pyNext (.ref (N + S.length + 2))) Q E s := by
  have hT : s.TypeIs (.ref (N + S.length + 2)) "zip" := ⟨_, hz.z, rfl⟩
  have all : ∀ {xs : List Value}, (∀ (j : Nat) (c : Sc), S[j]? = some c → ∃ x, c.2.2[i]? = some x ∧ xs[j]? = some x) → ∀ (j : Nat) (c : Sc), S[j]? = some c → ∃ x, c.2.2[i]? = some x := fun h j c e => let ⟨x, a, _⟩ := h j c e; ⟨x, a⟩
  unfold pyNext
  refine wpAny_bind (wpAny_attempt (wpAny_callSpecial?_slot (name := Str.ofString "__next__") hT F.slot_zip_next (wpAny_call_entry F.slot_zip_next hT F.entry_zip_next ?_ (F.args_zip_next_1 _))))
  have hE' : (∃ (j : Nat) (c : Sc), S[j]? = some c ∧ c.2.2[i]? = none) → ∀ h' e, (∀ c o, Off S N c → s.heap.get? c = some o → h'.get? c = some o) → (∃ o, h'.get? e = some o ∧ o.cls = .type "StopIteration") →
      wpAny (model prog w) A ((do
        if ← isInstance (.ref e) (.type "StopIteration") then pure none else throw (.ref e)) : Sem (Option Value)) Q E { s with heap := h' } := fun q h' e k he => by
    obtain ⟨o, ho, hc⟩ := he
    refine wpAny_bind (wpAny_isInstance (T := "StopIteration") (b := true) ⟨o, ho, hc⟩ isSubtype_stop ?_)
    exact wpAny_pure (hE q h' k)
  rcases h0 with rfl | ⟨T, rfl⟩
  · exact zip_free (f0 := .none) hh hS hl hz (.inl rfl) hs (fun xs h' a b c d e g k => wpAny_pure (hQ (all a) xs h' _ _ a b c e g k)) hE'
  · cases hT : s.heap.get? T with
    | none => exact zip_free hh hS hl hz (.inr ⟨T, rfl, hT⟩) hs (fun xs h' a b c d e g k => wpAny_pure (hQ (all a) xs h' _ _ a b c e g k)) hE'
    | some oT => exact zip_held hh hS hl hz hT hs (fun xs h' a b c d e g k => wpAny_pure (hQ (all a) xs h' _ _ a b c e g k)) hE'
/-- the target may unpack z's own tuple -/
theorem zip_letGo {tg : Expr} {v : Value} {Q : Unit → Shared → Prop} (hz : ZS S N i f0 f s.heap) (h0 : Out0 f0) (h : ∀ h' f0' f', ZS S N i f0' f' h' → Out0 f0' → Heap.SameBut (N + S.length + 2) s.heap h' → Q () { s with heap := h' }) :
    wpAny (model prog w) A (letOwnedTupleGo tg (.ref (N + S.length + 2)) v) Q E s := by
  have same : Q () s := h s.heap f0 f hz h0 (Heap.SameBut.refl _ _)
  have nz : ∀ k, k ≤ S.length + 1 → N + k ≠ N + S.length + 2 := fun k hk z => by
    have : k = S.length + 2 := Nat.add_left_cancel (show N + k = N + (S.length + 2) from z)
    omega
  have go : wpAny (model prog w) A (do
      let (.ref r, .ref a) := (Value.ref (N + S.length + 2), v) | return
      let o ← load r
      match o.cls, o.data with
      | .type n, .fields vs =>
        if ["enumerate", "zip", "dict_itemiterator", "dict_reverseitemiterator", "odict_iterator", "itertools.zip_longest", "itertools.pairwise"].contains n && vs[0]? == some (rawInt a) then
          rule "for.unpacks-the-owned-tuple"
          updateField r 0 .none
      | _, _ => pure ()) Q E s := by
    cases v with
    | ref a =>
      refine wpAny_bind (wpAny_load hz.z ?_)
      dsimp only
      split
      · refine wpAny_bind (wpAny_rule ?_)
        show wpAny _ _ (setField (.ref _) 0 .none) Q E s
        refine wpAny_setField_rec hz.z (by simp) fun h' hz' hs' => h h' .none f ⟨hz', (hs'.2 _ (nz S.length (by omega))).trans hz.ti, ?_, fun j c e => ?_⟩ (.inl rfl) hs'
        · obtain ⟨vs, a1, a2⟩ := hz.to
          exact ⟨vs, a1, (hs'.2 _ (nz (S.length + 1) (by omega))).trans a2⟩
        · exact (hz.at_ j c e).at fun o ho => (hs'.2 _ (nz j (Nat.le_succ_of_le (Nat.le_of_lt (nextTail e))))).trans ho
      · exact wpAny_pure same
    | _ => exact wpAny_pure same
  unfold letOwnedTupleGo
  cases tg <;> first | exact go | exact wpAny_pure same
theorem zip_self {Q : Value → Shared → Prop} (hz : ZS S N i f0 f s.heap) (h : Q (.ref (N + S.length + 2)) s) : wpAny (model prog w) A (pyIter (.ref (N + S.length + 2))) Q E s := by
  have hT : s.TypeIs (.ref (N + S.length + 2)) "zip" := ⟨_, hz.z, rfl⟩
  refine wpAny_pyIter_slot hT F.slot_zip_iter (wpAny_call_entry F.slot_zip_iter hT F.entry_zip_iter ?_ (F.args_zip_iter_1 _))
  show wpAny _ _ (ret (.ref _)) _ _ s
  exact wpAny_pure ⟨_, rfl, "zip", _, hT, F.slot_zip_next.lookup, h⟩
/-! ### made -/
def itObj (k : Bool) (l : Addr) : Obj := { cls := .type (if k then "tuple_iterator" else "list_iterator"), data := .fields #[.ref l, .int 0 0] }
theorem iter_k {k : Bool} {l : Addr} {items : Array Value} {Q : Value → Shared → Prop} (hl : isSq k s.heap l items) (hQ : Q (.ref s.heap.objs.size) { s with heap := s.heap.push (itObj k l) }) : wpAny (model prog w) A (pyIter (.ref l)) Q E s := by
  cases k with
  | false => exact wpAny_pyIter_list hl hQ
  | true => exact wpAny_pyIter_tuple hl hQ
theorem isSq.push {k : Bool} {h : Heap} {l : Addr} {items : Array Value} (x : isSq k h l items) (o : Obj) : isSq k (h.push o) l items := x.at fun _ e => Heap.get?_push_of_some _ e
theorem itObj_at {k : Bool} {l it : Addr} {h : Heap} (e : h.get? it = some (itObj k l)) : isIt k h it l 0 := by
  cases k <;> exact ⟨_, e, rfl, rfl⟩
end
def pushIts (ks : List (Bool × Addr)) (h : Heap) : Heap := ks.foldl (fun h k => h.push (itObj k.1 k.2)) h
def zipObj (N n : Nat) : Obj := { cls := .type "zip", data := .fields #[.none, .bool false, .bool false, .ref (N + n), .ref (N + n + 1)] }
/-- the heap behind zip(..) -/
def zipHeap (ks : List (Bool × Addr)) (h : Heap) : Heap := (((pushIts ks h).push { cls := .type "tuple", data := .seq (itsV h.objs.size ks.length).toArray }).push { cls := .type "tuple", data := .seq (List.replicate ks.length Value.none).toArray }).push (zipObj h.objs.size ks.length)
theorem pushIts_size : ∀ (ks : List (Bool × Addr)) (h : Heap), (pushIts ks h).objs.size = h.objs.size + ks.length
  | [], h => rfl
  | k :: ks, h => by
    show (pushIts ks (h.push _)).objs.size = _
    rw [pushIts_size ks, Heap.size_push]
    show h.objs.size + 1 + ks.length = h.objs.size + (ks.length + 1)
    omega
theorem pushIts_keep : ∀ (ks : List (Bool × Addr)) (h : Heap) {c : Addr} {o : Obj}, h.get? c = some o → (pushIts ks h).get? c = some o
  | [], h, c, o, e => e
  | k :: ks, h, c, o, e => pushIts_keep ks _ (Heap.get?_push_of_some _ e)
theorem pushIts_at : ∀ (ks : List (Bool × Addr)) (h : Heap) {j : Nat} {k : Bool × Addr}, ks[j]? = some k → (pushIts ks h).get? (h.objs.size + j) = some (itObj k.1 k.2)
  | [], h, j, k, e => by simp at e
  | q :: ks, h, 0, k, e => by
    cases e
    exact pushIts_keep ks _ (Heap.get?_push_size _ (by cases q with | mk a b => cases a <;> rfl))
  | q :: ks, h, j + 1, k, e => by
    have := pushIts_at ks (h.push (itObj q.1 q.2)) (j := j) (k := k) (by simpa using e)
    rw [Heap.size_push] at this
    have z : h.objs.size + 1 + j = h.objs.size + (j + 1) := by omega
    rw [z] at this
    exact this
def noIts (ks : List (Bool × Addr)) : List Sc := ks.map fun k => (k.1, k.2, #[])
theorem zip_made (ks : List (Bool × Addr)) (h : Heap) : ZS (noIts ks) h.objs.size 0 .none false (zipHeap ks h) ∧ (zipHeap ks h).objs.size = h.objs.size + ks.length + 3 ∧ ∀ c o, h.get? c = some o → (zipHeap ks h).get? c = some o := by
  have s1 := pushIts_size ks h
  have len : (noIts ks).length = ks.length := by unfold noIts; simp
  have s2 : ((pushIts ks h).push { cls := .type "tuple", data := .seq (itsV h.objs.size ks.length).toArray }).objs.size = h.objs.size + ks.length + 1 := by rw [Heap.size_push, s1]
  have s3 : (((pushIts ks h).push { cls := .type "tuple", data := .seq (itsV h.objs.size ks.length).toArray }).push { cls := .type "tuple", data := .seq (List.replicate ks.length Value.none).toArray }).objs.size = h.objs.size + ks.length + 2 := by rw [Heap.size_push, s2]
  refine ⟨⟨?_, ?_, ⟨List.replicate ks.length Value.none, by rw [len]; simp, ?_⟩, fun j c e => ?_⟩, by unfold zipHeap; rw [Heap.size_push, s3], fun c o e => Heap.get?_push_of_some _ (Heap.get?_push_of_some _ (Heap.get?_push_of_some _ (pushIts_keep ks h e)))⟩
  · rw [len, ← s3]
    exact Heap.get?_push_size _ rfl
  · rw [len]
    refine Heap.get?_push_of_some _ (Heap.get?_push_of_some _ ?_)
    rw [← s1]
    exact Heap.get?_push_size _ rfl
  · rw [len]
    refine Heap.get?_push_of_some _ ?_
    rw [← s2]
    exact Heap.get?_push_size _ rfl
  · unfold noIts at e
    rw [List.getElem?_map] at e
    obtain ⟨k, e1, rfl⟩ := Option.map_eq_some_iff.mp e
    exact itObj_at (Heap.get?_push_of_some _ (Heap.get?_push_of_some _ (Heap.get?_push_of_some _ (pushIts_at ks h e1))))
theorem meets_zip1 (k1 : Bool) (l1 : Addr) (xs : Array Value) :
    Meets (Builtin.«zip.__new__» ⟨[.type "zip", .ref l1], []⟩) (fun _ R s => isSq k1 s.heap l1 xs ∧ R (.ok (.ret (.ref (s.heap.objs.size + 3)))) { s with heap := zipHeap [(k1, l1)] s.heap }) :=
  .of_wp fun prog w A R s h => by
    obtain ⟨hp, g, d, tk, os⟩ := s; obtain ⟨hl1, h⟩ := h
    have hsub := sub_zip
    have hL1 : isSq k1 (Shared.heap ⟨hp, g, d, tk, os⟩) l1 xs := hl1
    wp_walk using iter_k hL1
    refine ⟨_, rfl, ?_⟩
    simp only [Heap.size_push]
    exact h
theorem meets_zip2 (k1 k2 : Bool) (l1 l2 : Addr) (xs ys : Array Value) :
    Meets (Builtin.«zip.__new__» ⟨[.type "zip", .ref l1, .ref l2], []⟩) (fun _ R s => isSq k1 s.heap l1 xs ∧ isSq k2 s.heap l2 ys ∧ R (.ok (.ret (.ref (s.heap.objs.size + 4)))) { s with heap := zipHeap [(k1, l1), (k2, l2)] s.heap }) :=
  .of_wp fun prog w A R s h => by
    obtain ⟨hp, g, d, tk, os⟩ := s; obtain ⟨hl1, hl2, h⟩ := h
    have hsub := sub_zip
    have hL1 : isSq k1 (Shared.heap ⟨hp, g, d, tk, os⟩) l1 xs := hl1
    have hL2 : isSq k2 (Shared.heap ⟨hp.push (itObj k1 l1), g, d, tk, os⟩) l2 ys := isSq.push hl2 _
    wp_walk using iter_k hL1, iter_k hL2
    refine ⟨_, rfl, ?_⟩
    simp only [Heap.size_push]
    exact h
theorem meets_zip3 (k1 k2 k3 : Bool) (l1 l2 l3 : Addr) (xs ys zs : Array Value) :
    Meets (Builtin.«zip.__new__» ⟨[.type "zip", .ref l1, .ref l2, .ref l3], []⟩) (fun _ R s => isSq k1 s.heap l1 xs ∧ isSq k2 s.heap l2 ys ∧ isSq k3 s.heap l3 zs ∧ R (.ok (.ret (.ref (s.heap.objs.size + 5)))) { s with heap := zipHeap [(k1, l1), (k2, l2), (k3, l3)] s.heap }) :=
  .of_wp fun prog w A R s h => by
    obtain ⟨hp, g, d, tk, os⟩ := s; obtain ⟨hl1, hl2, hl3, h⟩ := h
    have hsub := sub_zip
    have hL1 : isSq k1 (Shared.heap ⟨hp, g, d, tk, os⟩) l1 xs := hl1
    have hL2 : isSq k2 (Shared.heap ⟨hp.push (itObj k1 l1), g, d, tk, os⟩) l2 ys := isSq.push hl2 _
    have hL3 : isSq k3 (Shared.heap ⟨(hp.push (itObj k1 l1)).push (itObj k2 l2), g, d, tk, os⟩) l3 zs := isSq.push (isSq.push hl3 _) _
    wp_walk using iter_k hL1, iter_k hL2, iter_k hL3
    refine ⟨_, rfl, ?_⟩
    simp only [Heap.size_push]
    exact h
theorem typeCall_zip_1 (a : Value) : checkTypeCall "zip" ⟨[a], []⟩ = pure () := by kernel_rfl
theorem newCall_zip_1 (a : Value) : checkBuiltinCall "zip.__new__" ⟨[.type "zip", a], []⟩ = pure () := by kernel_rfl
theorem typeCall_zip_3 (a b c : Value) : checkTypeCall "zip" ⟨[a, b, c], []⟩ = pure () := by kernel_rfl
theorem newCall_zip_3 (a b c : Value) : checkBuiltinCall "zip.__new__" ⟨[.type "zip", a, b, c], []⟩ = pure () := by kernel_rfl
theorem args_init_4 (a b c d : Value) : argsOk "object.__init__" ⟨[a, b, c, d], []⟩ := by
  unfold argsOk; rw [signature?_of (id := "object.__init__") (n := ['_', '_', 't', 'i', 'n', 'i', '_', '_']) (o := ['t', 'c', 'e', 'j', 'b', 'o']) (by kernel_rfl) F.owner_object]; kernel_rfl
section
variable {prog : Program} {w : World} {A : Around} {E : Value → Shared → Prop} {s : Shared}
/-- the sources: lists or tuples at their places -/
inductive SrcV : Heap → List (Bool × Addr) → Prop
  | nil {h : Heap} : SrcV h []
  | cons {h : Heap} {k : Bool} {l : Addr} {ks : List (Bool × Addr)} {xs : Array Value} : isSq k h l xs → SrcV h ks → SrcV h ((k, l) :: ks)
theorem zip_typeIs (ks : List (Bool × Addr)) (s : Shared) : Shared.TypeIs { s with heap := zipHeap ks s.heap } (.ref (s.heap.objs.size + ks.length + 2)) "zip" := by
  have h := (zip_made ks s.heap).1.z
  have len : (noIts ks).length = ks.length := by unfold noIts; simp
  rw [len] at h
  exact ⟨_, h, rfl⟩
theorem call_zipN {ks : List (Bool × Addr)} {Q : Value → Shared → Prop} (h1 : ks ≠ []) (h3 : ks.length ≤ 3) (hs : SrcV s.heap ks) (h : Q (.ref (s.heap.objs.size + ks.length + 2)) { s with heap := zipHeap ks s.heap }) :
    wpAny (model prog w) A (call (.type "zip") (ks.map fun k => .ref k.2)) Q E s := by
  have ty := zip_typeIs ks s
  match ks, hs, h1, h3 with
  | [(k1, l1)], .cons a .nil, _, _ =>
    exact callType_new F.called_zip (by decide) (typeCall_zip_1 _) (newCall_zip_1 _) (fun obj => F.args_object_init_2 obj _) F.entry_zip_new (meets_zip1 k1 l1 _) ⟨a, ty, h⟩
  | [(k1, l1), (k2, l2)], .cons a (.cons b .nil), _, _ =>
    exact callType_new F.called_zip (by decide) (F.typeCall_zip_2 _ _) (F.newCall_zip_2 _ _) (fun obj => F.args_object_init_3 obj _ _) F.entry_zip_new (meets_zip2 k1 k2 l1 l2 _ _) ⟨a, b, ty, h⟩
  | [(k1, l1), (k2, l2), (k3, l3)], .cons a (.cons b (.cons c .nil)), _, _ =>
    exact callType_new F.called_zip (by decide) (typeCall_zip_3 _ _ _) (newCall_zip_3 _ _ _) (fun obj => args_init_4 obj _ _ _) F.entry_zip_new (meets_zip3 k1 k2 k3 l1 l2 l3 _ _ _) ⟨a, b, c, ty, h⟩
  | [], _, h1, _ => exact absurd rfl h1
  | _ :: _ :: _ :: _ :: _, _, _, h3 => exact absurd h3 (by simp)
end
end DnQ

/-! Dn, part KW: zip walked. -/
namespace DnQ
open PySem
open Sem (wp)
theorem prd_of_get {α β : Type} {F : α → β → Prop} : ∀ {l₁ : List α} {l₂ : List β}, l₁.length = l₂.length → (∀ (j : Nat) v u, l₁[j]? = some v → l₂[j]? = some u → F v u) → Paired F l₁ l₂
  | [], [], _, _ => .nil
  | a :: l, b :: r, e, h => .cons (h 0 a b rfl rfl) (prd_of_get (by simpa using e) fun j v u h1 h2 => h (j + 1) v u (by simpa using h1) (by simpa using h2))
  | [], _ :: _, e, _ => by cases e
  | _ :: _, [], e, _ => by cases e
/-! ### walked -/
section
open PySem.Spec PyProof.Rows L2
def SqK (K : PySem.W.Frag) (k : Bool) (H : Hp) (a : Addr) (xs : List V) : Prop := if k then SqT K H a xs else SqL K H a xs
def SqKs (K : PySem.W.Frag) (H : Hp) : List (Bool × Addr) → List (List V) → Prop
  | [], [] => True
  | k :: ks, xs :: xss => SqK K k.1 H k.2 xs ∧ SqKs K H ks xss
  | _, _ => False
/-- the items with the number i -/
def RowAt (xss : List (List V)) (i : Nat) (ys : List V) : Prop := ys.length = xss.length ∧ ∀ (j : Nat) (xs : List V), xss[j]? = some xs → ∃ x, xs[i]? = some x ∧ ys[j]? = some x
def Itzn (K : PySem.W.Frag) (ks : List (Bool × Addr)) : It :=
  ⟨fun i H => ∃ xss, SqKs K H ks xss ∧ ∃ ys, RowAt xss i ys, fun i H v H' => ∃ T ys, v = .ref T ∧ H T = none ∧ H' = upd H T (.tup ys) ∧ ∀ xss, SqKs K H ks xss → RowAt xss i ys, fun i H => ∃ xss, SqKs K H ks xss ∧ ∃ xs ∈ xss, xs.length ≤ i⟩
def cells (N n : Nat) : List Addr := (List.range (n + 3)).map fun j => N + j
theorem off_cells {S : List Sc} {N : Nat} {b : Addr} (h : b ∉ cells N S.length) : Off S N b := by
  unfold Off
  by_cases q : b < N
  · exact .inl q
  · refine .inr ?_
    by_cases q2 : N + S.length + 3 ≤ b
    · exact q2
    · refine absurd (List.mem_map.mpr ⟨b - N, List.mem_range.mpr ?_, ?_⟩) h
      · have h1 : N ≤ b := Nat.le_of_not_lt q
        have h2 : b < N + S.length + 3 := Nat.lt_of_not_le q2
        exact Nat.sub_lt_left_of_lt_add h1 h2
      · exact Nat.add_sub_of_le (Nat.le_of_not_lt q)
theorem cells_mem {N n : Nat} {b : Addr} (h : b ∈ cells N n) : N ≤ b ∧ b < N + n + 3 := by
  obtain ⟨j, hj, rfl⟩ := List.mem_map.mp h
  have := List.mem_range.mp hj
  exact ⟨Nat.le_add_right N j, by show N + j < N + n + 3; omega⟩
section
variable {X : Cx} {pins : List (Addr × Obj)} {σ : L2.St} {H : Hp} {s : Shared}
theorem SqK.at_ (I : Inv X pins σ H s) {k : Bool} {a : Addr} {xs : List V} (h : SqK X.K k H a xs) : ∃ its : List Value, Vals xs its ∧ isSq k s.heap a its.toArray ∧ xs.length ≤ sizeLine := by
  cases k with
  | false =>
    obtain ⟨its, r, p, z⟩ := I.list h
    exact ⟨its, r, p.isList, z⟩
  | true =>
    obtain ⟨its, r, p, z⟩ := I.tuple h
    exact ⟨its, r, p, z⟩
theorem SqK.inj (I : Inv X pins σ H s) {k : Bool} {a : Addr} {xs ys : List V} (h : SqK X.K k H a xs) (h' : SqK X.K k H a ys) : xs = ys := by
  cases k with
  | false => exact I.list_inj h h'
  | true => exact I.tuple_inj h h'
theorem SqKs.inj (I : Inv X pins σ H s) : ∀ {ks : List (Bool × Addr)} {xss yss : List (List V)}, SqKs X.K H ks xss → SqKs X.K H ks yss → xss = yss
  | [], [], [], _, _ => rfl
  | _ :: _, _ :: _, _ :: _, h, h' => by rw [SqK.inj I h.1 h'.1, SqKs.inj I h.2 h'.2]
  | [], [], _ :: _, _, h => h.elim
  | [], _ :: _, _, h, _ => h.elim
  | _ :: _, [], _, h, _ => h.elim
  | _ :: _, _ :: _, [], _, h => h.elim
/-- the sources as they stand -/
theorem SqKs.srcs (I : Inv X pins σ H s) {N : Nat} : ∀ {ks : List (Bool × Addr)} {xss : List (List V)}, SqKs X.K H ks xss → (∀ k ∈ ks, k.2 < N) → ∃ S : List Sc, S.map (fun c => (c.1, c.2.1)) = ks ∧ Srcs S N s.heap ∧
    S.length = xss.length ∧ ∀ (j : Nat) (c : Sc) (xs : List V), S[j]? = some c → xss[j]? = some xs → Vals xs c.2.2.toList
  | [], [], _, _ => ⟨[], rfl, fun j c e => by simp at e, rfl, fun j c xs e => by simp at e⟩
  | k :: ks, xs :: xss, h, hl => by
    obtain ⟨its, r, p, z⟩ := h.1.at_ I
    obtain ⟨S, e1, e2, e3, e4⟩ := SqKs.srcs I h.2 fun k' h' => hl k' (List.mem_cons_of_mem _ h')
    refine ⟨(k.1, k.2, its.toArray) :: S, by rw [List.map_cons, e1], fun j c e => ?_, congrArg Nat.succ e3, fun j c ys e e' => ?_⟩
    · cases j with
      | zero => cases e; exact ⟨p, hl k List.mem_cons_self⟩
      | succ j => exact e2 j c (by simpa using e)
    · cases j with
      | zero => cases e; cases e'; exact r
      | succ j => exact e4 j c ys (by simpa using e) (by simpa using e')
  | [], _ :: _, h, _ => h.elim
  | _ :: _, [], h, _ => h.elim
theorem zs_items {S S' : List Sc} {N i : Nat} {f0 : Value} {f : Bool} {h : Heap} (e : S.map (fun c => (c.1, c.2.1)) = S'.map (fun c => (c.1, c.2.1))) (z : ZS S N i f0 f h) : ZS S' N i f0 f h := by
  have l : S'.length = S.length := by
    have := congrArg List.length e
    simpa using this.symm
  obtain ⟨z1, z2, z3, z4⟩ := z
  refine ⟨by rw [l]; exact z1, by rw [l]; exact z2, by rw [l]; exact z3, fun j c' ec => ?_⟩
  have : (S.map (fun c => (c.1, c.2.1)))[j]? = some (c'.1, c'.2.1) := by rw [e, List.getElem?_map, ec]; rfl
  rw [List.getElem?_map] at this
  obtain ⟨c, e1, e2⟩ := Option.map_eq_some_iff.mp this
  have q := z4 j c e1
  injection e2 with e3 e4
  rw [e3, e4] at q
  exact q
theorem noIts_map (ks : List (Bool × Addr)) : (noIts ks).map (fun c => (c.1, c.2.1)) = ks := by
  unfold noIts
  rw [List.map_map]
  exact List.map_id _
end
theorem turn_zipN {P : Program} {w : World} {K : PySem.W.Frag} {tg : Expr} {ks : List (Bool × Addr)} {N : Addr} (h1 : ks ≠ []) (h3 : ks.length ≤ 1000) (hlt : ∀ k ∈ ks, k.2 < N) :
    Turn P w K tg (Itzn K ks) (cells N ks.length) (N + ks.length + 2) (fun i h => ∃ f0 f, ZS (noIts ks) N i f0 f h ∧ Out0 f0) where
  mem := List.mem_map.mpr ⟨ks.length + 2, List.mem_range.mpr (by omega), rfl⟩
  obj := fun i h ⟨f0, f, z, _⟩ b hb => by
    have len : (noIts ks).length = ks.length := by unfold noIts; simp
    obtain ⟨j, hj, rfl⟩ := List.mem_map.mp hb
    have hj := List.mem_range.mp hj
    by_cases c1 : j < ks.length
    · obtain ⟨c, e⟩ : ∃ c, (noIts ks)[j]? = some c := ⟨_, List.getElem?_eq_getElem (by rw [len]; exact c1)⟩
      have := z.at_ j c e
      unfold isIt at this
      split at this
      · obtain ⟨o, ho, _, hd⟩ := this
        exact ⟨o, ho, fun v q => by rw [hd] at q; cases q⟩
      · obtain ⟨o, ho, _, hd⟩ := this
        exact ⟨o, ho, fun v q => by rw [hd] at q; cases q⟩
    · have c2 : j = ks.length ∨ j = ks.length + 1 ∨ j = ks.length + 2 := by
        have a1 : ks.length ≤ j := Nat.le_of_not_lt c1
        rcases Nat.lt_or_ge j (ks.length + 1) with a2 | a2
        · exact .inl (Nat.le_antisymm (Nat.le_of_lt_succ a2) a1)
        · rcases Nat.lt_or_ge j (ks.length + 2) with a3 | a3
          · exact .inr (.inl (Nat.le_antisymm (Nat.le_of_lt_succ a3) a2))
          · exact .inr (.inr (Nat.le_antisymm (Nat.le_of_lt_succ hj) a3))
      rcases c2 with rfl | rfl | rfl
      · have := z.ti
        rw [len] at this
        exact ⟨_, this, fun v q => by cases q⟩
      · obtain ⟨vs, _, this⟩ := z.to
        rw [len] at this
        exact ⟨_, this, fun v q => by cases q⟩
      · have := z.z
        rw [len] at this
        exact ⟨_, this, fun v q => by cases q⟩
  keep := fun i h h' ⟨f0, f, z, o0⟩ k => by
    have len : (noIts ks).length = ks.length := by unfold noIts; simp
    have mem : ∀ j, j < ks.length + 3 → N + j ∈ cells N ks.length := fun j hj => List.mem_map.mpr ⟨j, List.mem_range.mpr hj, rfl⟩
    obtain ⟨z1, z2, ⟨vs, v1, z3⟩, z4⟩ := z
    refine ⟨f0, f, ⟨?_, ?_, ⟨vs, v1, ?_⟩, fun j c e => ?_⟩, o0⟩
    · rw [len] at z1 ⊢
      exact k _ (mem (ks.length + 2) (by omega)) _ z1
    · rw [len] at z2 ⊢
      exact k _ (mem ks.length (by omega)) _ z2
    · rw [len] at z3 ⊢
      exact k _ (mem (ks.length + 1) (by omega)) _ z3
    · refine (z4 j c e).at fun o ho => k _ (mem j ?_) _ ho
      have := nextTail e
      rw [len] at this
      omega
  item := by
    intro X hP hw hK hc i pins s σ H E I hf st hg
    subst hP hw hK
    obtain ⟨f0, f, z, o0⟩ := st
    obtain ⟨xss, hq, ys0, hy0⟩ := hg
    obtain ⟨S, e1, e2, e3, e4⟩ := SqKs.srcs I hq hlt
    have z := zs_items (S' := S) (by rw [noIts_map, e1]) z
    have lS : S.length = ks.length := by rw [← e1]; simp
    have hS : S ≠ [] := fun q => h1 (by rw [← e1, q]; rfl)
    rw [← lS] at hf ⊢
    refine zip_next (by exact I.ok.hd hc) hS (by omega) z o0 e2 (fun all xs h' T f' hx lx z' hT sz off => ?_) fun ⟨j, c, q1, q2⟩ => ?_
    · refine ⟨_, rfl, ?_⟩
      refine zip_letGo (s := { s with heap := h' }) z' (.inr ⟨T, rfl⟩) fun h'' f0' f'' z'' o0' sb => ?_
      have hzl : N + S.length + 2 < s.heap.objs.size := Heap.lt_size z.z
      have hT2 : h''.get? s.heap.objs.size = some { cls := .type "tuple", data := .seq xs.toArray } := (sb.2 _ (Nat.ne_of_gt hzl)).trans hT
      -- the values
      have vals : ∃ ys : List V, Vals ys xs ∧ RowAt xss i ys := by
        refine ⟨ys0, ?_, hy0⟩
        refine prd_of_get ?_ ?_
        · rw [hy0.1, lx, e3]
        · intro j v u hv hu
          have hj : j < S.length := by rw [← lx]; exact (List.getElem?_eq_some_iff.mp hu).1
          have hc : S[j]? = some S[j] := List.getElem?_eq_getElem hj
          have hxj : xss[j]? = some (xss[j]'(by rw [← e3]; exact hj)) := List.getElem?_eq_getElem _
          obtain ⟨x, a1, a2⟩ := hx j _ hc
          obtain ⟨y, b1, b2⟩ := hy0.2 j _ hxj
          rw [hu] at a2; cases a2
          rw [hv] at b2; cases b2
          have r := e4 j _ _ hc hxj
          obtain ⟨u', d1, d2⟩ := r.get b1
          have : (S[j].2.2)[i]? = some u' := by simpa using d1
          rw [a1] at this
          cases this
          exact d2
      obtain ⟨ys, vys, row⟩ := vals
      have lys : ys.length ≤ sizeLine := by
        rw [row.1, ← e3, PySem.sizeLine_eq]; omega
      have new : ObjOk X.prog X.w (upd H s.heap.objs.size (.tup ys)) h'' s.heap.objs.size (.tup ys) := ⟨lys, xs, vys, ⟨_, hT2, rfl, _, rfl⟩⟩
      have I1 : Inv X pins σ (upd H s.heap.objs.size (.tup ys)) { s with heap := h'' } :=
        I.turnedNew (t' := s.toks) (ch := cells N S.length) (fun c o hb q => (sb.2 c (fun q' => hb (by rw [q']; exact List.mem_map.mpr ⟨S.length + 2, List.mem_range.mpr (by omega), rfl⟩))).trans (off c o (off_cells hb) q)) hf (Nat.le_refl _) new
      refine ⟨.ref s.heap.objs.size, _, I1, rfl, ⟨_, ys, rfl, I.hok.fresh (Nat.le_refl _), rfl, fun l hl => by rw [SqKs.inj I hl hq]; exact row⟩, ⟨f0', f'', zs_items (by rw [noIts_map, e1]) z'', o0'⟩, fun c hcm => ?_⟩
      have hlt2 : c < s.heap.objs.size := by
        have := (cells_mem hcm).2
        have q : N + S.length + 3 ≤ s.heap.objs.size := hzl
        exact Nat.lt_of_lt_of_le this q
      rw [upd_ne (Nat.ne_of_lt hlt2)]
      exact (hf c hcm).1
    · exfalso
      have hj := nextTail q1
      have hxj : xss[j]? = some (xss[j]'(by rw [← e3]; exact hj)) := List.getElem?_eq_getElem _
      obtain ⟨y, b1, b2⟩ := hy0.2 j _ hxj
      obtain ⟨u', d1, d2⟩ := (e4 j c _ q1 hxj).get b1
      have : (c.2.2)[i]? = some u' := by simpa using d1
      rw [q2] at this
      cases this
  done := by
    intro X hP hw hK hc i pins s σ H E I hf st hg
    subst hP hw hK
    obtain ⟨f0, f, z, o0⟩ := st
    obtain ⟨xss, hq, xs0, m0, l0⟩ := hg
    obtain ⟨S, e1, e2, e3, e4⟩ := SqKs.srcs I hq hlt
    have z := zs_items (S' := S) (by rw [noIts_map, e1]) z
    have lS : S.length = ks.length := by rw [← e1]; simp
    have hS : S ≠ [] := fun q => h1 (by rw [← e1, q]; rfl)
    rw [← lS] at hf ⊢
    refine zip_next (by exact I.ok.hd hc) hS (by omega) z o0 e2 (fun all => ?_) fun _ h' off => ⟨rfl, I.turnedL (t' := s.toks) (ch := cells N S.length) (fun c o hb q => off c o (off_cells hb) q) hf⟩
    exfalso
    obtain ⟨j, hj⟩ := List.mem_iff_getElem?.mp m0
    have hjl : j < S.length := by rw [e3]; exact (List.getElem?_eq_some_iff.mp hj).1
    obtain ⟨x, hx⟩ := all j _ (List.getElem?_eq_getElem hjl)
    have r := (e4 j _ _ (List.getElem?_eq_getElem hjl) hj).length
    have hi : i < (S[j].2.2).size := by
      obtain ⟨a, _⟩ := Array.getElem?_eq_some_iff.mp hx
      exact a
    have : (S[j].2.2).toList.length = (S[j].2.2).size := by simp
    omega
  self := fun A i s Q E ⟨f0, f, z, o0⟩ h => by
    have len : (noIts ks).length = ks.length := by unfold noIts; simp
    have := zip_self (prog := P) (w := w) (A := A) (E := E) (Q := Q) z (by rw [len]; exact h)
    rw [len] at this
    exact this
end
end DnQ

/-! Dn, part KD: dict(zip(a, b)); the walk over a zip. -/
namespace DnQ
open PySem
open Sem (wp)
theorem rows2 {k1 k2 : Bool} {l1 l2 : Addr} {xs ys : Array Value} : ∀ (j : Nat) (c : Sc), ([(k1, l1, xs), (k2, l2, ys)] : List Sc)[j]? = some c → (j = 0 ∧ c = (k1, l1, xs)) ∨ (j = 1 ∧ c = (k2, l2, ys))
  | 0, c, e => by cases e; exact .inl ⟨rfl, rfl⟩
  | 1, c, e => by cases e; exact .inr ⟨rfl, rfl⟩
  | j + 2, c, e => by simp at e
/-- zip(x, y) where pairs are wanted -/
theorem zip_pairs {prog : Program} {w : World} (k1 k2 : Bool) (l1 l2 : Addr) (N : Addr) (xs ys : Array Value) :
    PairArg prog w "zip" (N + 4) (cells N 2 ++ [l1, l2]) (cells N 2) (min xs.size ys.size) (fun i k v => xs[i]? = some k ∧ ys[i]? = some v)
      (fun h => ZS [(k1, l1, xs), (k2, l2, ys)] N 0 .none false h ∧ isSq k1 h l1 xs ∧ isSq k2 h l2 ys ∧ l1 < N ∧ l2 < N) where
  type := fun s ok => ⟨_, ok.1.z, rfl⟩
  notDict := by decide
  keep := fun h h' ⟨⟨z1, z2, ⟨vs, v1, v2⟩, z4⟩, a, b, c, d⟩ hk => ⟨⟨hk _ _ z1, hk _ _ z2, ⟨vs, v1, hk _ _ v2⟩, fun j q e => (z4 j q e).at fun o ho => hk _ o ho⟩, a.at fun o ho => hk _ o ho, b.at fun o ho => hk _ o ho, c, d⟩
  there := fun h ⟨⟨z1, z2, ⟨vs, v1, v2⟩, z4⟩, a, b, c, d⟩ x hx => by
    rcases List.mem_append.mp hx with hx | hx
    · obtain ⟨j, hj, rfl⟩ := List.mem_map.mp hx
      have hj := List.mem_range.mp hj
      have it : ∀ (k : Bool) (l : Addr) (i : Nat) (t : Addr), isIt k h t l i → ∃ o, h.get? t = some o := fun k l i t q => by
        cases k with
        | false => obtain ⟨o, ho, _⟩ := q; exact ⟨o, ho⟩
        | true => obtain ⟨o, ho, _⟩ := q; exact ⟨o, ho⟩
      match j, hj with
      | 0, _ => exact it _ _ _ _ (z4 0 _ rfl)
      | 1, _ => exact it _ _ _ _ (z4 1 _ rfl)
      | 2, _ => exact ⟨_, z2⟩
      | 3, _ => exact ⟨_, v2⟩
      | 4, _ => exact ⟨_, z1⟩
    · have sq : ∀ (k : Bool) (l : Addr) (its : Array Value), isSq k h l its → ∃ o, h.get? l = some o := fun k l its q => by
        cases k with
        | false => obtain ⟨o, ho, _⟩ := q; exact ⟨o, ho⟩
        | true => obtain ⟨o, ho, _⟩ := q; exact ⟨o, ho⟩
      simp only [List.mem_cons, List.not_mem_nil, or_false] at hx
      rcases hx with rfl | rfl
      · exact sq _ _ _ a
      · exact sq _ _ _ b
  sub := fun b hb => List.mem_append_left _ hb
  noKeys := fun A s Q E hA ok h => getAttrOr_miss_zip ok.1.z rfl rfl rfl zip_no_keys (by decide +kernel) hA h
  iter := fun A s d Q E hA ⟨z, a, b, c1, c2⟩ hd hdf h => by
    have hdc : d ∉ cells N 2 := fun q => hdf (List.mem_append_left _ q)
    have hd1 : d ≠ l1 := fun q => hdf (List.mem_append_right _ (by simp [q]))
    have hd2 : d ≠ l2 := fun q => hdf (List.mem_append_right _ (by simp [q]))
    have dz : ∀ j, j < 5 → d ≠ N + j := fun j hj q => hdc (List.mem_map.mpr ⟨j, List.mem_range.mpr hj, q.symm⟩)
    refine zip_self z (h (N + 4) (cells N 2) (fun i h => ∃ f0 f, ZS [(k1, l1, xs), (k2, l2, ys)] N i f0 f h ∧ Out0 f0 ∧ isSq k1 h l1 xs ∧ isSq k2 h l2 ys) s.heap s.toks ?_ ⟨.none, false, z, .inl rfl, a, b⟩ (fun _ _ e => e) fun b hb => .inl hb)
    have srcs : ∀ {h : Heap}, isSq k1 h l1 xs → isSq k2 h l2 ys → Srcs [(k1, l1, xs), (k2, l2, ys)] N h := fun a b j c e => by
      rcases rows2 j c e with ⟨_, rfl⟩ | ⟨_, rfl⟩
      · exact ⟨a, c1⟩
      · exact ⟨b, c2⟩
    have off : ∀ c, c ∉ cells N 2 → Off [(k1, l1, xs), (k2, l2, ys)] N c := fun c hc => off_cells (S := [(k1, l1, xs), (k2, l2, ys)]) hc
    have offl : ∀ l : Addr, l < N → Off [(k1, l1, xs), (k2, l2, ys)] N l := fun l hl => .inl hl
    exact {
      off := hdc
      frame := fun i h1 h2 ⟨f0, f, ⟨z1, z2, ⟨vs, v1, v2⟩, z4⟩, o0, a, b⟩ hk => by
        refine ⟨f0, f, ⟨hk _ _ (Ne.symm (dz 4 (by decide))) z1, hk _ _ (Ne.symm (dz 2 (by decide))) z2, ⟨vs, v1, hk _ _ (Ne.symm (dz 3 (by decide))) v2⟩, fun j q e => ?_⟩, o0, a.at fun o ho => hk _ o (Ne.symm hd1) ho, b.at fun o ho => hk _ o (Ne.symm hd2) ho⟩
        rcases rows2 j q e with ⟨rfl, rfl⟩ | ⟨rfl, rfl⟩
        · exact (z4 0 _ rfl).at fun o ho => hk _ o (Ne.symm (dz 0 (by decide))) ho
        · exact (z4 1 _ rfl).at fun o ho => hk _ o (Ne.symm (dz 1 (by decide))) ho
      item := fun i s1 Q1 E1 hi ⟨f0, f, z, o0, a, b⟩ hds hQ => by
        refine zip_next (S := [(k1, l1, xs), (k2, l2, ys)]) hA (by simp) (by simp) z o0 (srcs a b) (fun all vs h' T f' hx lx z' hT sz off' => ?_) fun ⟨j, c, e1, e2⟩ => ?_
        · obtain ⟨x, x1, x2⟩ := hx 0 _ rfl
          obtain ⟨y, y1, y2⟩ := hx 1 _ rfl
          have ev : vs = [x, y] := by
            match vs, lx, x2, y2 with
            | [p, q], _, x2, y2 => cases x2; cases y2; rfl
          subst ev
          refine hQ s1.heap.objs.size x y h' s1.toks ⟨x1, y1⟩ (.inl ⟨_, hT, rfl, _, rfl⟩) ⟨_, f', z', .inr ⟨T, rfl⟩, a.at fun o ho => off' _ o (offl _ c1) ho, b.at fun o ho => off' _ o (offl _ c2) ho⟩ fun c o hc ho => off' c o (off c hc) ho
        · exfalso
          rcases rows2 j c e1 with ⟨_, rfl⟩ | ⟨_, rfl⟩
          · have := Array.getElem?_eq_none_iff.mp (show xs[i]? = none from e2)
            have := Nat.min_le_left xs.size ys.size
            omega
          · have := Array.getElem?_eq_none_iff.mp (show ys[i]? = none from e2)
            have := Nat.min_le_right xs.size ys.size
            omega
      done := fun s1 Q1 E1 ⟨f0, f, z, o0, a, b⟩ hQ => by
        refine zip_next (S := [(k1, l1, xs), (k2, l2, ys)]) hA (by simp) (by simp) z o0 (srcs a b) (fun all => ?_) fun _ h' off' => hQ h' s1.toks fun c o hc ho => off' c o (off c hc) ho
        exfalso
        obtain ⟨x, x1⟩ := all 0 _ rfl
        obtain ⟨y, y1⟩ := all 1 _ rfl
        have a1 := (Array.getElem?_eq_some_iff.mp x1).1
        have a2 := (Array.getElem?_eq_some_iff.mp y1).1
        rcases Nat.le_total xs.size ys.size with q | q
        · rw [Nat.min_eq_left q] at a1; exact Nat.lt_irrefl _ a1
        · rw [Nat.min_eq_right q] at a2; exact Nat.lt_irrefl _ a2 }
theorem zip_selfK {prog : Program} {w : World} {A : Around} {E : Value → Shared → Prop} {s : Shared} {ks : List (Bool × Addr)} {N i : Nat} {f0 : Value} {f : Bool} {Q : Value → Shared → Prop} (hz : ZS (noIts ks) N i f0 f s.heap) (h : Q (.ref (N + ks.length + 2)) s) :
    wpAny (model prog w) A (pyIter (.ref (N + ks.length + 2))) Q E s := by
  have len : (noIts ks).length = ks.length := by unfold noIts; simp
  have := zip_self (prog := prog) (w := w) (A := A) (E := E) (Q := Q) hz (by rw [len]; exact h)
  rw [len] at this
  exact this
end DnQ
namespace L2
open PySem PySem.Spec PyProof.Rows DnQ
section
variable {X : Cx}
/-- zip of one to three lists and tuples, walked -/
def iZipN (K : PySem.W.Frag) (ta : TA) : TI := fun σ H R => ta σ H fun vs H1 => ∃ (ks : List (Bool × Addr)) (xss : List (List V)), vs = ks.map (fun k => V.ref k.2) ∧ ks ≠ [] ∧ ks.length ≤ 3 ∧ SqKs K H1 ks xss ∧ R (Itzn K ks) H1
theorem refsK : ∀ {ks : List (Bool × Addr)} {us : List Value}, Vals (ks.map fun k => V.ref k.2) us → us = ks.map fun k => Value.ref k.2
  | [], us, r => by cases r; rfl
  | k :: ks, us, r => by
    rw [List.map_cons] at r
    cases r with
    | cons h t => cases h; rw [List.map_cons, ← refsK t]
theorem srcV_of {pins : List (Addr × Obj)} {σ : L2.St} {H : Hp} {s : Shared} (I : Inv X pins σ H s) : ∀ {ks : List (Bool × Addr)} {xss : List (List V)}, SqKs X.K H ks xss → SrcV s.heap ks ∧ ∀ k ∈ ks, k.2 < s.heap.objs.size
  | [], [], _ => ⟨.nil, fun _ h => by cases h⟩
  | k :: ks, xs :: xss, h => by
    obtain ⟨its, r, p, z⟩ := h.1.at_ I
    obtain ⟨a, b⟩ := srcV_of I h.2
    refine ⟨.cons p a, fun k' hk => ?_⟩
    rcases List.mem_cons.mp hk with rfl | hk
    · cases hq : k'.1 with
      | false => rw [hq] at p; obtain ⟨o, ho, _⟩ := p; exact Heap.lt_size ho
      | true => rw [hq] at p; obtain ⟨o, ho, _⟩ := p; exact Heap.lt_size ho
    · exact b k' hk
  | [], _ :: _, h => h.elim
  | _ :: _, [], h => h.elim
theorem pi_zipN {tg : Expr} {e : Expr} {es : List Expr} {ta : TA} {p pos : Pos} (hg : Gl X "zip") (hm : X.mg "zip" = none) (ha : PA X (e :: es) ta)
    (hs : starEach (e :: es) X.env = (false, eval e X.env) :: starEach es X.env := by rfl) (hpl : (backTo pos (starEach es X.env)).any (·.1) = false := by rfl) :
    PI X tg (.Call (.Name "zip" p) (e :: es) [] pos) (iZipN X.K ta) := by
  refine ⟨fun pins s σ H R I h => ?_⟩
  refine Call_ (ld_blt I hg hm PyProof.Rows.boot_zip (PyProof.Rows.callWith_type1 (thn (ha.run pos pins s σ H _ I h) fun us s1 ⟨vs, H1, I1, r1, q1⟩ => ?_) hs hpl))
  obtain ⟨ks, xss, rfl, h1, h3, hq, q⟩ := q1
  rw [refsK r1]
  obtain ⟨sv, lt⟩ := srcV_of I1 hq
  obtain ⟨z, sz, kp⟩ := zip_made ks s1.heap
  have len : (noIts ks).length = ks.length := by unfold noIts; simp
  refine call_zipN h1 h3 sv ?_
  refine zip_selfK (s := { s1 with heap := zipHeap ks s1.heap }) z ?_
  have I2 : Inv X pins σ H1 { s1 with heap := zipHeap ks s1.heap } := I1.kept (t' := s1.toks) kp
  refine ⟨s1.heap.objs.size + ks.length + 2, cells s1.heap.objs.size ks.length, _, _, H1, rfl, I2, turn_zipN h1 (by omega) lt, ⟨.none, false, z, .inl rfl⟩, fun b hb => ?_, q⟩
  exact I1.fpOk (DnQ.cells_mem hb).1 (I1.hok.fresh (DnQ.cells_mem hb).1)
/-- dict(zip(x, y)) -/
def tDictZip (K : PySem.W.Frag) (ta : TA) : TE := fun σ H Q => ta σ H fun vs H1 => ∃ (k1 k2 : Bool) (a b : Addr) (xs ys : List V) (kvs : List (Key × V)), vs = [.ref a, .ref b] ∧ SqK K k1 H1 a xs ∧ SqK K k2 H1 b ys ∧
  (∀ (i : Nat) x y, xs[i]? = some x → ys[i]? = some y → ∃ κ, kvs[i]? = some (κ, y) ∧ x = kV κ) ∧ kvs.length = min xs.length ys.length ∧ ∀ p, H1 p = none → Q (.ref p) (upd H1 p (.dK (mergeK [] kvs)))
theorem pe_dictZip {e e2 : Expr} {ta : TA} {p p2 q pos : Pos} (hg : Gl X "dict") (hm : X.mg "dict" = none) (hg2 : Gl X "zip") (hm2 : X.mg "zip" = none) (ha : PA X [e, e2] ta) (hc : X.calm = true)
    (hs : starEach [e, e2] X.env = (false, eval e X.env) :: starEach [e2] X.env := by rfl) (hpl : (backTo q (starEach [e2] X.env)).any (·.1) = false := by rfl) :
    PE X (.Call (.Name "dict" p) [.Call (.Name "zip" p2) [e, e2] [] q] [] pos) (tDictZip X.K ta) := by
  refine ⟨fun pins s σ H Q I h => ?_⟩
  refine Call_ (ld_blt I hg hm PyProof.Rows.boot_dict ?_)
  refine PyProof.Rows.callWith_type1 (PyProof.Rows.args_cons ?_ rfl) rfl rfl
  refine Call_ (ld_blt I hg2 hm2 PyProof.Rows.boot_zip (PyProof.Rows.callWith_type1 (thn (ha.run q pins s σ H _ I h) fun us s1 ⟨vs, H1, I1, r1, q1⟩ => ?_) hs hpl))
  obtain ⟨k1, k2, a, b, xs, ys, kvs, rfl, hx, hy, hk, hl, hQ⟩ := q1
  have r1' : Vals (([(k1, a), (k2, b)] : List (Bool × Addr)).map fun k => V.ref k.2) us := r1
  rw [refsK r1']
  have hq : SqKs X.K H1 [(k1, a), (k2, b)] [xs, ys] := ⟨hx, hy, trivial⟩
  obtain ⟨sv, lt⟩ := srcV_of I1 hq
  obtain ⟨z, sz, kp⟩ := zip_made [(k1, a), (k2, b)] s1.heap
  refine call_zipN (by simp) (by simp) sv ?_
  refine PyProof.Rows.args_nil ?_
  have I2 : Inv X pins σ H1 { s1 with heap := zipHeap [(k1, a), (k2, b)] s1.heap } := I1.kept (t' := s1.toks) kp
  obtain ⟨its, rx, px, zx⟩ := hx.at_ I1
  obtain ⟨its2, ry, py, zy⟩ := hy.at_ I1
  have lxs := rx.length
  have lys := ry.length
  -- the pairs as values
  have prs : ∃ prs : List (Key × Value), KV kvs prs ∧ prs.length = kvs.length ∧ ∀ (i : Nat) k v, its[i]? = some k → its2[i]? = some v → ∃ κ, prs[i]? = some (κ, v) ∧ (mixKind X.prog X.w).is κ k = true := by
    have go : ∀ (n : Nat) (kvs : List (Key × V)) (xs ys : List V) (us ws : List Value), kvs.length = n → Vals xs us → Vals ys ws → kvs.length = min xs.length ys.length → (∀ (i : Nat) x y, xs[i]? = some x → ys[i]? = some y → ∃ κ, kvs[i]? = some (κ, y) ∧ x = kV κ) →
        ∃ prs : List (Key × Value), KV kvs prs ∧ prs.length = kvs.length ∧ ∀ (i : Nat) k v, us[i]? = some k → ws[i]? = some v → ∃ κ, prs[i]? = some (κ, v) ∧ (mixKind X.prog X.w).is κ k = true := by
      intro n
      induction n with
      | zero =>
        intro kvs xs ys us ws e ra rb hl hk
        have e' : kvs = [] := List.length_eq_zero_iff.mp e
        subst e'
        refine ⟨[], .nil, rfl, fun i k v h1 h2 => ?_⟩
        have l1 := (List.getElem?_eq_some_iff.mp h1).1
        have l2 := (List.getElem?_eq_some_iff.mp h2).1
        have := ra.length
        have := rb.length
        simp at hl
        omega
      | succ n ih =>
        intro kvs xs ys us ws e ra rb hl hk
        cases ra with
        | nil => rw [e] at hl; simp at hl
        | cons r ra =>
          cases rb with
          | nil => rw [e] at hl; simp at hl
          | cons r' rb =>
            rename_i x u xs us y v ys ws
            obtain ⟨κ, h1, h2⟩ := hk 0 x y rfl rfl
            cases kvs with
            | nil => cases h1
            | cons kv kvs =>
              cases h1
              obtain ⟨prs, p1, p2, p3⟩ := ih kvs xs ys us ws (by simpa using e) ra rb (by simp at hl; omega) fun i x y e1 e2 => by
                have := hk (i + 1) x y (by simpa using e1) (by simpa using e2)
                simpa using this
              refine ⟨(κ, v) :: prs, .cons ⟨rfl, r'⟩ p1, congrArg Nat.succ p2, fun i k w h1 h2 => ?_⟩
              cases i with
              | zero => cases h1; cases h2; rw [h2] at r; exact ⟨κ, rfl, kV_is (P := X.prog) (w := X.w) r⟩
              | succ i => simpa using p3 i k w (by simpa using h1) (by simpa using h2)
    exact go _ kvs xs ys its its2 rfl rx ry hl hk
  obtain ⟨prs, p1, p2, p3⟩ := prs
  have zs : ZS [(k1, a, its.toArray), (k2, b, its2.toArray)] s1.heap.objs.size 0 .none false (zipHeap [(k1, a), (k2, b)] s1.heap) := zs_items (by rw [noIts_map]; rfl) z
  have la : a < s1.heap.objs.size := lt (k1, a) (by simp)
  have lb : b < s1.heap.objs.size := lt (k2, b) (by simp)
  refine PySem.call_dict_pairs (knd := mixKind X.prog X.w) (kvs := prs) (zip_pairs k1 k2 a b s1.heap.objs.size its.toArray its2.toArray) (I2.ok.hd hc) ⟨zs, px.at fun o e => kp _ _ e, py.at fun o e => kp _ _ e, la, lb⟩ ⟨?_, fun i key v ⟨e1, e2⟩ => p3 i key v (by simpa using e1) (by simpa using e2)⟩ ?_ fun h' tk hd' k => ?_
  · rw [p2, hl, lxs, lys]
    simp
  · have : min its.toArray.size its2.toArray.size ≤ its.length := by simp; omega
    rw [PySem.sizeLine_eq] at zx ⊢
    omega
  · have big : (s1.heap.objs.size + 5 == sysModules) = false := by
      refine beq_eq_false_iff_ne.mpr (Nat.ne_of_gt ?_)
      exact Nat.lt_of_lt_of_le I1.big (Nat.le_add_right _ _)
    rw [sz] at hd' ⊢
    have hlen : (mergeK [] kvs).length ≤ sizeLine := by
      refine Nat.le_trans (length_mergeK kvs []) ?_
      rw [List.length_nil, Nat.zero_add, hl]
      exact Nat.le_trans (Nat.min_le_left _ _) zx
    have kk : ∀ c o, s1.heap.get? c = some o → h'.get? c = some o := fun c o e => k c o (fun m => by
      have := (DnQ.cells_mem m).1
      exact absurd (Heap.lt_size e) (Nat.not_lt.mpr this)) (kp c o e)
    exact ⟨.ref (s1.heap.objs.size + 5), upd H1 (s1.heap.objs.size + 5) (.dK (mergeK [] kvs)), I1.laid (t' := tk) kk (Nat.le_add_right _ 5) (show ObjOk X.prog X.w _ _ _ (.dK (mergeK [] kvs)) from ⟨hlen, big, merged [] prs, KV.merge p1 .nil, hd'⟩), rfl, hQ _ (I1.hok.fresh (Nat.le_add_right _ 5))⟩
end
end L2

/-! Dn, part EA: own exceptions with an __init__ of their own that begins by super().__init__. -/
namespace DnX
open PySem PySem.W PySem.Calls PyProof.Rows PySem.Spec
/-! ### the built-in classes behind them -/
/-- a built-in class of exceptions that own ones stand on -/
structure Bse (B newId initId : String) (bmB : List Value) : Prop where
  F : ExcBaseFacts B newId initId bmB
  K : KxsFacts B initId
  pass : ∀ self, refuseLoop self "__setattr__" bmB = pure ()
  obj : bmB.contains (.type "object") = true
abbrev veL : List Value := [.type "ValueError", .type "Exception", .type "BaseException", .type "object"]
abbrev leL : List Value := [.type "LookupError", .type "Exception", .type "BaseException", .type "object"]
abbrev ieL : List Value := [.type "IndexError", .type "LookupError", .type "Exception", .type "BaseException", .type "object"]
theorem bse_VE : Bse "ValueError" "ValueError.__new__" "ValueError.__init__" veL := ⟨PySem.F.excBase_ValueError, kxs_ValueError, fun self => by kernel_rfl, by decide +kernel⟩
theorem bse_LE : Bse "LookupError" "LookupError.__new__" "LookupError.__init__" leL := ⟨PySem.F.excBase_LookupError, kxs_LookupError, fun self => by kernel_rfl, by decide +kernel⟩
theorem bse_IE : Bse "IndexError" "IndexError.__new__" "IndexError.__init__" ieL := ⟨PySem.F.excBase_IndexError, kxs_IndexError, fun self => by kernel_rfl, by decide +kernel⟩
/-- own classes, then a tail -/
def refsT (t : List Value) : List Value → Bool
  | .ref c :: r => refsT t r
  | l => l == t
theorem refsT_cases (t : List Value) : ∀ l : List Value, refsT t l = true → (∃ c r, l = .ref c :: r ∧ refsT t r = true) ∨ l = t
  | [], e => .inr (beq_iff_eq.mp e)
  | .ref c :: r, e => .inl ⟨c, r, rfl, e⟩
  | .none :: _, e => .inr (beq_iff_eq.mp e)
  | .ellipsis :: _, e => .inr (beq_iff_eq.mp e)
  | .notImplemented :: _, e => .inr (beq_iff_eq.mp e)
  | .bool _ :: _, e => .inr (beq_iff_eq.mp e)
  | .int _ _ :: _, e => .inr (beq_iff_eq.mp e)
  | .float _ _ :: _, e => .inr (beq_iff_eq.mp e)
  | .str _ _ :: _, e => .inr (beq_iff_eq.mp e)
  | .bytes _ _ :: _, e => .inr (beq_iff_eq.mp e)
  | .type _ :: _, e => .inr (beq_iff_eq.mp e)
  | .builtin _ :: _, e => .inr (beq_iff_eq.mp e)
theorem refsT_pass {t : List Value} (hp : ∀ self, refuseLoop self "__setattr__" t = pure ()) (self : Value) : ∀ l : List Value, refsT t l = true → refuseLoop self "__setattr__" l = pure () := by
  intro l
  induction l with
  | nil =>
    intro e
    rcases refsT_cases t [] e with ⟨c, r, q, _⟩ | q
    · cases q
    · rw [q]; exact hp self
  | cons a r ih =>
    intro e
    rcases refsT_cases t (a :: r) e with ⟨c, r', q, h⟩ | q
    · obtain ⟨rfl, rfl⟩ := List.cons.inj q
      rw [refuseLoop_ref]; exact ih h
    · rw [q]; exact hp self
theorem refsT_contains {t : List Value} (X : String) : ∀ l : List Value, refsT t l = true → l.contains (.type X) = t.contains (.type X) := by
  intro l
  induction l with
  | nil =>
    intro e
    rcases refsT_cases t [] e with ⟨c, r, q, _⟩ | q
    · cases q
    · rw [q]
  | cons a r ih =>
    intro e
    rcases refsT_cases t (a :: r) e with ⟨c, r', q, h⟩ | q
    · obtain ⟨rfl, rfl⟩ := List.cons.inj q
      rw [List.contains_cons, ih h]; rfl
    · rw [q]
/-- an exception's object -/
abbrev xO (C t : Addr) (d : Option Addr) : Obj := { cls := .ref C, dict := d, data := .fields #[.ref t, .none, .none, .none, .bool false, .none] }
/-! ### self.f = v -/
section
open Builtin Builtin.ObjectAttr
variable {prog : Program} {w : World} {A : Around} {E : Value → Shared → Prop} {R : Result → Shared → Prop} {hp : Heap} {g : Array GenState} {d : Drawn} {t : Nat} {os : OsState} {tl : List Value}
theorem osa_first {K : W.Frag} {name : Str} {tk : Tok} {v : Value} {x C : Addr} {fv : Array Value} {cd : ClassData} (hpass : ∀ self, refuseLoop self "__setattr__" tl = pure ()) (hobj : tl.contains (.type "object") = true)
    (X : K.In hp) (hx : hp.get? x = some { cls := .ref C, data := .fields fv }) (hcd : W.clsIn K C = some cd) (hm : refsT tl cd.mro = true) (hh : cd.hasDict = true) (ha : W.findIn K (.ref C) name = some none)
    (hq : ∀ h' tk' dx, (∀ b o, b ≠ x → hp.get? b = some o → h'.get? b = some o) → hp.objs.size ≤ dx → dx ≠ x → h'.get? x = some { cls := .ref C, dict := some dx, data := .fields fv } →
      h'.Ns1 dx (fun y => if y = name then some v else none) → R (.ok (.ret .none)) ⟨h', g, d, tk', os⟩) :
    codeAny (model prog w) A (.call (.builtin "object.__setattr__") ⟨[.ref x, .str name tk, v], []⟩) R ⟨hp, g, d, t, os⟩ := by
  have I : W.InstAt hp x { cls := .ref C, data := .fields fv } C none := ⟨hx, rfl, rfl, trivial⟩
  have SF := F.store_object
  have hob : cd.mro.contains (.type "object") = true := (refsT_contains "object" _ hm).trans hobj
  have ne : cd.mro.isEmpty = false := by
    cases e : cd.mro with
    | nil => rw [e] at hob; cases hob
    | cons _ _ => rfl
  have hxs : x ≠ hp.objs.size := Nat.ne_of_lt (Heap.lt_size hx)
  have sub : W.Looks (model prog w) hp (isInstance (.ref x) (.type "object")) true := I.type.andThen (W.looks_mroIn X (by unfold W.mroIn; rw [hcd, Option.bind_some, if_neg (by rw [ne]; decide), hob]))
  refine codeAny_call_builtin SF.slot.plain SF.entry (@W.check_slot (model prog w) _ _ ⟨hp, g, d, t, os⟩ "object.__setattr__" "object" "__setattr__" (.ref x) [.str name tk, v] [] _ SF.kind SF.split sub (SF.args (.ref x) (.str name tk) v) ?_)
  have hmr : W.Looks (model prog w) hp (mroOf (.ref C)) cd.mro := (W.looks_clsIn X hcd).andThen .now
  have L3 : W.Looks (model prog w) hp (storeTaker? none) none := .now
  have hcls : W.Looks (model prog w) hp (classData C) cd := W.looks_clsIn X hcd
  rw [W.osa_eq, refuse_eq]
  refine wpAny_bind (wpAny_bind (I.type.at (wpAny_bind (hmr.at ?_))))
  rw [refsT_pass hpass _ _ hm]
  refine wpAny_pure (wpAny_bind (I.type.at (wpAny_bind ((W.looks_findIn X ha).at (wpAny_bind (L3.at ?_))))))
  show wpAny _ _ (storeInOwnDict (.ref x) (.ref C) (.str name tk) name v false) _ _ _
  obtain ⟨nm, bs, mro, ns, qn, hd, sn, sb, ab, col, del⟩ := cd
  dsimp only at hh
  subst hh
  unfold storeInOwnDict ownDictForStores
  repeat (first | with_reducible refine PySem.HandSPX.store_in_new ?_ ?_ | with_reducible refine wpAny_loadPart_at hx ?_ | with_reducible refine hcls.at ?_ | wp_step)
  · exact ⟨_, #[], _, (Heap.get?_update_ne _ _ _ _ hxs.symm).trans (Heap.get?_push_at rfl rfl), rfl, fun e he => absurd he (by simp), fun _ => rfl⟩
  · intro h' tk' hn' hs
    have hx₁ : (hp.push { cls := .type "dict", data := .dict #[] }).get? x = some { cls := .ref C, data := .fields fv } := Heap.get?_push_of_some _ hx
    refine hq h' tk' hp.objs.size (fun b o hb ho => ?_) (Nat.le_refl _) hxs.symm ?_ hn'
    · exact (hs.2 b (Nat.ne_of_lt (Heap.lt_size ho))).trans ((Heap.get?_update_ne _ _ _ _ hb).trans (Heap.get?_push_of_some _ ho))
    · exact (hs.2 x hxs).trans (Heap.get?_update_self _ hx₁ rfl)
theorem osa_next {K : W.Frag} {name : Str} {tk : Tok} {v : Value} {x C dx : Addr} {fv : Array Value} {cd : ClassData} {m0 : Str → Option Value} {nl : List Str} (hpass : ∀ self, refuseLoop self "__setattr__" tl = pure ()) (hobj : tl.contains (.type "object") = true)
    (X : K.In hp) (hx : hp.get? x = some { cls := .ref C, dict := some dx, data := .fields fv }) (hns : hp.Ns1 dx m0) (hw : Within m0 nl) (hz : nl.length ≤ 1000) (hcd : W.clsIn K C = some cd) (hm : refsT tl cd.mro = true) (hh : cd.hasDict = true)
    (ha : W.findIn K (.ref C) name = some none)
    (hq : ∀ h' tk', (∀ b o, b ≠ dx → hp.get? b = some o → h'.get? b = some o) → h'.Ns1 dx (fun y => if y = name then some v else m0 y) → R (.ok (.ret .none)) ⟨h', g, d, tk', os⟩) :
    codeAny (model prog w) A (.call (.builtin "object.__setattr__") ⟨[.ref x, .str name tk, v], []⟩) R ⟨hp, g, d, t, os⟩ := by
  obtain ⟨oD, esD, epD, hoD, hdD, _⟩ := hns.count hw
  have I : W.InstAt hp x { cls := .ref C, dict := some dx, data := .fields fv } C (some oD) := ⟨hx, rfl, rfl, hoD⟩
  have SF := F.store_object
  have hob : cd.mro.contains (.type "object") = true := (refsT_contains "object" _ hm).trans hobj
  have ne : cd.mro.isEmpty = false := by
    cases e : cd.mro with
    | nil => rw [e] at hob; cases hob
    | cons _ _ => rfl
  have sub : W.Looks (model prog w) hp (isInstance (.ref x) (.type "object")) true := I.type.andThen (W.looks_mroIn X (by unfold W.mroIn; rw [hcd, Option.bind_some, if_neg (by rw [ne]; decide), hob]))
  refine codeAny_call_builtin SF.slot.plain SF.entry (@W.check_slot (model prog w) _ _ ⟨hp, g, d, t, os⟩ "object.__setattr__" "object" "__setattr__" (.ref x) [.str name tk, v] [] _ SF.kind SF.split sub (SF.args (.ref x) (.str name tk) v) ?_)
  have hmr : W.Looks (model prog w) hp (mroOf (.ref C)) cd.mro := (W.looks_clsIn X hcd).andThen .now
  have L3 : W.Looks (model prog w) hp (storeTaker? none) none := .now
  have hcls : W.Looks (model prog w) hp (classData C) cd := W.looks_clsIn X hcd
  rw [W.osa_eq, refuse_eq]
  refine wpAny_bind (wpAny_bind (I.type.at (wpAny_bind (hmr.at ?_))))
  rw [refsT_pass hpass _ _ hm]
  refine wpAny_pure (wpAny_bind (I.type.at (wpAny_bind ((W.looks_findIn X ha).at (wpAny_bind (L3.at ?_))))))
  show wpAny _ _ (storeInOwnDict (.ref x) (.ref C) (.str name tk) name v false) _ _ _
  obtain ⟨nm, bs, mro, ns, qn, hd, sn, sb, ab, col, del⟩ := cd
  dsimp only at hh
  subst hh
  unfold storeInOwnDict ownDictForStores
  repeat (first | with_reducible refine PySem.OEX.store_in_old hns hw hz ?_ | with_reducible refine wpAny_loadPart_at hx ?_ | with_reducible refine hcls.at ?_ | wp_step)
  intro h' tk' hn' hs
  exact hq h' tk' (fun b o hb ho => (hs.2 b hb).trans ho) hn'
end
end DnX

/-! Dn, part EB: such an __init__ runs. -/
namespace DnX
open PySem PySem.W PySem.Calls PyProof.Rows PySem.Spec
/-- super().__init__("lit") -/
def supS (lit : Str) (j : Nat) (p0 p1 p2 p3 p4 p5 : Pos) : Stmt := .Expr (.Call (.Attribute (.Call (.Name "super" p0) [] [] p1) "__init__" p2) [.Constant (.str lit) j p3] [] p4) p5
/-- self.code = "lit" -/
def codS (lit : Str) (j : Nat) (p0 p1 p2 p3 : Pos) : Stmt := .Assign [.Attribute (.Name "self" p0) "code" p1] (.Constant (.str lit) j p2) p3
/-- self.f = x -/
def fldS (f x : Str) (p0 p1 p2 p3 : Pos) : Stmt := .Assign [.Attribute (.Name "self" p0) f p1] (.Name x p2) p3
/-- the last statements -/
def tailS : Option (Str × Str) → List Stmt → Prop
  | none, l => l = []
  | some (x, f), l => ∃ p0 p1 p2 p3, l = [fldS f x p0 p1 p2 p3]
structure XSh (params : Arguments) (body : List Stmt) (scope : Scope) (lit : Str) (fl : Option (Str × Str)) : Prop where
  bd : ∃ j p0 p1 p2 p3 p4 p5 j' q0 q1 q2 q3 l, body = supS lit j p0 p1 p2 p3 p4 p5 :: codS lit j' q0 q1 q2 q3 :: l ∧ tailS fl l ∧ (p2.endLine == p4.line) = true
  hd : ∃ ar, (params.posonlyargs ++ params.args).head? = some ar ∧ ar.arg = "self"
  k : scope.kind = .function
  nc : ∀ x ∈ scope.names, x.2 ≠ .cell
  co : scope.isCoroutine = false
  ge : scope.isGenerator = false
  sf : scope.names.lookup ("self" : Str) = some .local
  su : scope.names.lookup ("super" : Str) = some .globalImplicit
  cl : scope.names.lookup ("__class__" : Str) = some .free
  fx : ∀ x f, fl = some (x, f) → scope.names.lookup x = some .local ∧ (x == ("__debug__" : Str)) = false ∧ x ≠ ("self" : Str)
/-- what the written part says of the class -/
structure XCk (P : Program) (K : Frag) (C fI : Addr) (params : Arguments) (body : List Stmt) (scope : Scope) (fl : Option (Str × Str)) : Prop where
  b : ∃ B newId initId bmB, Bse B newId initId bmB ∧ excInitIn K C bmB newId = true ∧ (∃ cd, clsIn K C = some cd ∧ refsT bmB cd.mro = true ∧ cd.hasDict = true) ∧ ks_superIn K C C "__init__" = some (some (.builtin initId)) ∧ subIn K (.ref C) (.type B) = some true
  self : mroIn K C (.ref C) = some true
  opq : nsIn K cStatics "thirdparty.any" = some none
  sa : findIn K (.ref C) "__setattr__" = some (some (.builtin "object.__setattr__"))
  ini : findIn K (.ref C) "__init__" = some (some (.ref fI))
  ty : typeIn K (.ref fI) = some (.type "function")
  fn : ∃ oc od osl name qual kV doc pm an cda ct cc, K.lookup fI = some ⟨oc, od, .func (ksFn name qual params body scope .none kV doc pm an (.ref cda) ct cc), osl⟩ ∧ codeIn K (.ref cda) qual = true ∧
    (∃ ccl cdd vs ccs file tf, K.lookup cda = some ⟨ccl, cdd, .fields vs, ccs⟩ ∧ vs[2]? = some (.str file tf) ∧ ((P.main.file : Str) == file) = true) ∧ (∃ cl cld csl, K.lookup cc = some ⟨cl, cld, .cell (some (.ref C)), csl⟩)
  nc : findIn K (.ref C) "code" = some none
  nf : ∀ x f, fl = some (x, f) → findIn K (.ref C) f = some none ∧ f ≠ ("code" : Str)
  top : (P.main.scope.names.lookup ("super" : Str)).isSome = false
def mapX (lit : Str) (tk : Tok) : Option (Str × Value) → Str → Option Value
  | none => fun y => if y = ("code" : Str) then some (.str lit tk) else none
  | some (f, v) => fun y => if y = f then some v else if y = ("code" : Str) then some (.str lit tk) else none
section
variable {prog : Program} {w : World} {A : Around} {E : Value → Shared → Prop} {R : Result → Shared → Prop} {h : Heap} {g : Array GenState} {d : Drawn} {t : Nat} {os : OsState} {K : Frag} {C fI e t0 : Addr} {params : Arguments} {body : List Stmt} {scope : Scope} {lit : Str} {fl : Option (Str × Str)} {args : Args} {mg mb : Str → Option Value}
/-- the arguments bound -/
def bndX (e : Addr) : Option (Str × Str) → Option Value → List (Str × Value)
  | some (x, _), some v => [("self", .ref e), (x, v)]
  | _, _ => [("self", .ref e)]
def valX : Option (Str × Str) → Option Value → Option (Str × Value)
  | some (_, f), some v => some (f, v)
  | _, _ => none
theorem call_mw {B newId initId : String} {bmB : List Value} (bs : Bse B newId initId bmB) (X : K.In h) (qi : excInitIn K C bmB newId = true) {u : Addr} (hu : h.get? u = some (kxs_mw initId e)) (he : h.get? e = some (xO C t0 none)) {rest : List Value} (hz : rest.length ≤ sizeLine) {Q : Value → Shared → Prop}
    (hq : ∀ h' t1, (∀ b o, b ≠ e → h.get? b = some o → h'.get? b = some o) → h'.get? e = some (xO C t1 none) → Q .none ⟨h', g, d, t, os⟩) : wpAny (model prog w) A (call (.ref u) rest) Q E ⟨h, g, d, t, os⟩ := by
  obtain ⟨nm, N', qn, bs', bm, hdct, sn, sub, ab, col, dd, k0, k1, k2, k3, k5, hC, hT⟩ := excInit_of X qi
  refine wpAny_call (codeAny_of_tree ?_)
  show wpAny _ A.in1 (callAny (.ref u) ⟨rest, []⟩) _ _ _
  simp only [callAny]
  refine wpAny_bind (wpAny_load hu ?_)
  simp only [kxs_mw, show (Value.type "method-wrapper" == Value.type "method" || Value.type "method-wrapper" == Value.type "builtin_function_or_method" || Value.type "method-wrapper" == Value.type "method-wrapper") = true by decide, if_true]
  refine KFB.if_so (by decide) ?_
  refine wpAny_bind (check_bound_init bs.F.toExcCallFacts hC he rfl ?_)
  refine wpAny_bind (wpAny_pure (wpAny_pure ?_))
  refine ⟨plainId_quiet bs.F.init.plain _, codeAny_builtin bs.F.initEntry ?_⟩
  exact exc_init_tree (cls := .ref C) (t0 := t0) (dv := none) (c2 := .none) (c3 := .none) (b4 := .bool false) he hz fun h' k e' t' => hq h' _ k e'
theorem init_run (S : XSh params body scope lit fl) (W : XCk prog K C fI params body scope fl) (X : K.In h) (G : h.Ns mainGlobals mg) (g0 : mg "super" = none) (Bn : h.Ns builtinsNs mb) (b0 : mb "super" = some (.type "super")) (lim : h.NoLimit) (room : A.depth < recursionLimit)
    (he : h.get? e = some (xO C t0 none)) (eC : e ≠ C) (ke : K.lookup e = none) {vo : Option Value} (hv : fl.isSome = vo.isSome)
    (hb : ∀ name qual kV doc pm an cdv ct cc, bindArgs (ksFn name qual params body scope .none kV doc pm an cdv ct cc) args = pure (bndX e fl vo))
    (hq : ∀ h' tk tk2 t1 dx, (∀ b o, b ≠ e → h.get? b = some o → h'.get? b = some o) → h'.get? e = some (xO C t1 (some dx)) → h.objs.size ≤ dx → dx ≠ e → h'.Ns1 dx (mapX lit tk (valX fl vo)) → R (.ok (.ret .none)) ⟨h', g, d, tk2, os⟩) :
    codeAny (model prog w) A (.call (.ref fI) args) R ⟨h, g, d, t, os⟩ := by
  obtain ⟨B, newId, initId, bmB, bs, qi, ⟨cd, hcd, hm, hh⟩, sup, sub⟩ := W.b
  obtain ⟨oc, od, osl, name, qual, kV, doc, pm, an, cda, ct, cc, hf, hcode, ⟨ccl, cdd, vs, ccs, file, tf, hcda, hvs, hfile⟩, ⟨cl, cld, csl, hcell⟩⟩ := W.fn
  obtain ⟨j, p0, p1, p2, p3, p4, p5, j', q0, q1, q2, q3, l, rfl, tl, hpos⟩ := S.bd
  obtain ⟨ar, har, hself⟩ := S.hd
  have loc : ∀ y ∈ bndX e fl vo, scope.names.lookup y.1 = some .local := fun y hy => by
    unfold bndX at hy
    split at hy
    · rename_i x f v
      rcases List.mem_cons.mp hy with rfl | hy
      · exact S.sf
      · rw [List.mem_singleton.mp hy]
        exact (S.fx _ _ rfl).1
    · rw [List.mem_singleton.mp hy]
      exact S.sf
  refine ks_codeAny_call_defAt room (X _ _ hf) rfl lim (codeRec_of X hcode) rfl (.of_eq (hb _ _ _ _ _ _ _ _ _)) S.nc loc (fun h0 n0 k0 => ?_) S.co S.ge S.k
  -- the run
  have eL : e ≠ h.objs.size := Nat.ne_of_lt (Heap.lt_size he)
  have X0 : K.In h0 := X.keeps k0
  have he0 := k0 _ _ he
  have sv : (fun x => (bndX e fl vo).reverse.lookup x) ("self" : Str) = some (.ref e) := by
    unfold bndX
    split
    · rename_i x f v
      have := (S.fx _ _ rfl).2.2
      have c : (("self" : Str) == x) = false := by simpa using fun z => this z.symm
      simp [List.lookup, c]
    · rfl
  obtain ⟨oD, hD1, hD2⟩ : ∃ oD, h0.get? C = some oD ∧ oD.data = .cls cd := by
    unfold clsIn at hcd
    split at hcd
    · rename_i c d cd' sl ho
      cases hcd
      exact ⟨_, X0 _ _ ho, rfl⟩
    · cases hcd
  generalize hE : callEnv (ksFn name qual params (supS lit j p0 p1 p2 p3 p4 p5 :: codS lit j' q0 q1 q2 q3 :: l) scope .none kV doc pm an (.ref cda) ct cc) h.objs.size fI = env
  have e1 : env.scope = scope := by rw [← hE]; rfl
  have e2 : env.locals = h.objs.size := by rw [← hE]; rfl
  have e3 : env.globals = mainGlobals := by rw [← hE]; rfl
  have e4 : env.builtins = builtinsNs := by rw [← hE]; rfl
  have e5 : env.func = some fI := by rw [← hE]; rfl
  have e6 : env.code = .ref cda := by rw [← hE]; rfl
  have e7 : env.cells = [(("__class__" : Str), cc)] := by rw [← hE]; rfl
  have hk : env.scope.kind = .function := by rw [e1]; exact S.k
  have n0 : h0.Ns env.locals (fun x => (bndX e fl vo).reverse.lookup x) := by rw [e2]; exact n0
  have ku : env.kindOf ("super" : Str) = some .globalImplicit := by unfold Env.kindOf; rw [e1]; exact S.su
  have kc : env.kindOf ("__class__" : Str) = some .free := by unfold Env.kindOf; rw [e1]; exact S.cl
  have ks : env.kindOf ("self" : Str) = some .local := by unfold Env.kindOf; rw [e1]; exact S.sf
  have hform : methodCallForm 1 (backTo p4 (starEach [Expr.Constant (.str lit) j p3] env)) (backToKw p4 (keywordEach [] env)) = true := rfl
  have hcall : eval (.Call (.Attribute (.Call (.Name "super" p0) [] [] p1) "__init__" p2) [.Constant (.str lit) j p3] [] p4) env = (do
      let ov ← attributeBase (.Call (.Name "super" p0) [] [] p1) "__init__" env (eval (.Call (.Name "super" p0) [] [] p1) env)
      standAt p2.atName
      let (f, first) ← holding [ov] (getMethod ov "__init__" (do return (← importBound (.Call (.Name "super" p0) [] [] p1) env).getD true))
      callWith p4 f first (backTo p4 (starEach [Expr.Constant (.str lit) j p3] env)) []) := by
    show (do
      let ov ← attributeBase (.Call (.Name "super" p0) [] [] p1) "__init__" env (eval (.Call (.Name "super" p0) [] [] p1) env)
      standAt p2.atName
      methodCall (.Call (.Name "super" p0) [] [] p1) "__init__" p2 p4 env ov 1 (backTo p4 (starEach [Expr.Constant (.str lit) j p3] env)) (backToKw p4 (keywordEach [] env))) = _
    simp only [methodCall, hform, calleeOf, if_true, methodCallPos, Bool.not_true, Bool.false_or, hpos, pure_bind]
    rfl
  refine ks_wpAt_execs_cons (ks_wpAt_Expr_any (hi := by unfold interactive; rw [hk]; rfl) (ks_wpAt_MethodCall (he := hcall) (ks_wpAt_super_base ku kc (by rfl) e5 (X0 _ _ hf) rfl har e6 (X0 _ _ hcda) rfl hvs hfile W.top ?_)))
  refine ks_loadName_global hk ku (loadGlobal_builtin (env := env) (by rw [e3]; exact G.keeps k0) g0 (by rw [e4]; exact Bn.keeps k0) b0 ⟨rfl, ?_⟩)
  refine wpAny_loadName_free hk kc (by rw [e7]; rfl) ⟨_, X0 _ _ hcell, rfl⟩ ?_
  rw [hself]
  refine wpAny_loadName_local hk ks n0 sv ?_
  refine ks_wpAny_isType_cls hD1 hD2 ⟨rfl, ?_⟩
  refine ks_wpAny_call_super hD1 hD2 he0 rfl (fun c z => by cases z) (looks_mroIn X0 W.self) (fun h1 hso k1 => ?_)
  have X1 : K.In h1 := X0.keeps k1
  have he1 := k1 _ _ he0
  have I1 : InstAt h1 e (xO C t0 none) C none := ⟨he1, rfl, rfl, trivial⟩
  have hsup : alongIn K "__init__" ((cd.mro.dropWhile (· != .ref C)).drop 1) = some (some (.builtin initId)) := by
    unfold ks_superIn at sup
    rw [hcd] at sup
    exact sup
  refine kxs_getMethod bs.K hso (looks_opaque X1 W.opq) (l₀ := cd.mro) (fun A Q E s k q => wpAny_bind ((looks_clsIn X1 hcd) A _ E s k (wpAny_pure q))) rfl X1 hsup (I1.type.andThen (looks_subIn X1 sub)) eC (by rfl) ?_
  have k1' : ∀ y o, h1.get? y = some o → (h1.push (kxs_mw initId e)).get? y = some o := fun y o z => Heap.get?_push_of_some _ z
  show wpAny _ _ (callWith p4 (.ref h1.objs.size) [] (backTo p4 (starEach [Expr.Constant (.str lit) j p3] env)) []) _ _ _
  refine kxs_callWith (i := initId) (x := e) rfl (evalArgs_plain ?_)
  refine spliced_cons (wpAny_Constant_str (k := j) (pos := p3) (spliced_nil ⟨Heap.get?_push_at rfl rfl, ?_⟩))
  refine call_mw bs (X1.keeps k1') qi (Heap.get?_push_at rfl rfl) (k1' _ _ he1) (by show 1 ≤ sizeLine; rw [sizeLine_eq]; omega) fun h3 t1 k3 he3 => ?_
  -- the fields
  have K3 : ∀ b o, b ≠ e → h0.get? b = some o → h3.get? b = some o := fun b o hb z => k3 b o hb (k1' _ _ (k1 _ _ z))
  have X3 : K.In h3 := fun a o z => K3 a o (fun y => by rw [y, ke] at z; cases z) (X0 _ _ z)
  have n3 : h3.Ns env.locals (fun x => (bndX e fl vo).reverse.lookup x) := n0.at fun o z => K3 _ o (by rw [e2]; exact Ne.symm eL) z
  have L3 : h.objs.size < h3.objs.size := by
    have := n3.lt
    rwa [e2] at this
  have he3 : h3.get? e = some ({ cls := .ref C, dict := none, data := .fields #[.ref t1, .none, .none, .none, .bool false, .none] } : Obj) := he3
  refine wpAt_of_wpAny ?_
  refine wpAny_execs_cons (plainObj_wpAny_Assign_Attribute (wpAny_Constant_str (k := j') (pos := q2) (wpAny_Name (wpAny_loadName_local hk ks n3 sv ?_) (by decide))))
  refine set_plain X3 (ox := { cls := .ref C, dict := none, data := .fields #[.ref t1, .none, .none, .none, .bool false, .none] }) (od := none) ⟨he3, rfl, rfl, trivial⟩ W.sa (osa_first bs.pass bs.obj X3 he3 hcd hm hh W.nc fun h4 tk4 dx k4 dl dn he4 n4 => ?_)
  have X4 : K.In h4 := fun a o z => k4 a o (fun y => by rw [y, ke] at z; cases z) (X3 _ _ z)
  have nl4 : h4.Ns env.locals (fun x => (bndX e fl vo).reverse.lookup x) := n3.at fun o z => k4 _ o (by rw [e2]; exact Ne.symm eL) z
  have D4 : h.objs.size ≤ dx := Nat.le_trans (Nat.le_of_lt L3) dl
  have K4 : ∀ b o, b ≠ e → h.get? b = some o → h4.get? b = some o := fun b o hb z => k4 b o hb (K3 b o hb (k0 _ _ z))
  cases fl with
  | none =>
    have tl : l = [] := tl
    subst tl
    exact wpAny_execs_nil (hq h4 _ _ t1 dx K4 he4 D4 dn n4)
  | some q =>
    obtain ⟨x, f⟩ := q
    obtain ⟨r0, r1, r2, r3, rfl⟩ := tl
    obtain ⟨fx1, fx2, fx3⟩ := S.fx x f rfl
    obtain ⟨nf1, nf2⟩ := W.nf x f rfl
    cases vo with
    | none => cases hv
    | some v =>
      have xv : (fun y => (bndX e (some (x, f)) (some v)).reverse.lookup y) x = some v := by
        unfold bndX
        simp [List.lookup]
      have kx : env.kindOf x = some .local := by unfold Env.kindOf; rw [e1]; exact fx1
      refine wpAny_execs_cons (plainObj_wpAny_Assign_Attribute (wpAny_Name (wpAny_loadName_local hk kx nl4 xv (wpAny_Name (wpAny_loadName_local hk ks nl4 sv ?_) (by decide))) fx2))
      obtain ⟨oD, _, _, hoD, _, _⟩ := n4.count (Within.cons ("code" : Str) (.str lit _) Within.nil)
      refine set_plain X4 (ox := { cls := .ref C, dict := some dx, data := .fields #[.ref t1, .none, .none, .none, .bool false, .none] }) (od := some oD) ⟨he4, rfl, rfl, hoD⟩ W.sa (osa_next bs.pass bs.obj X4 he4 n4 (Within.cons ("code" : Str) (.str lit _) Within.nil) (by decide) hcd hm hh nf1 fun h5 tk5 k5 n5 => ?_)
      refine wpAny_execs_nil (hq h5 _ _ t1 dx (fun b o hb z => ?_) (k5 _ _ (Ne.symm dn) he4) D4 dn n5)
      have lt := Heap.lt_size z
      exact k5 b o (Nat.ne_of_lt (Nat.lt_of_lt_of_le lt D4)) (K4 b o hb z)
end
end DnX

/-! Dn, part ED: .. called by keyword. -/
namespace DnX
open PySem PySem.HandSPX
open Builtin Builtin.ObjectAttr
section
variable {M : Model} {A : Around} {E : Value → Shared → Prop} {h : Heap} {g : Array GenState} {d : Drawn} {t : Nat} {os : OsState}
variable {nm q : Str} {C N : Addr} {bs bm bmB : List Value} {hdct : Bool} {sn : List Str} {sub : List Value} {ab : Bool} {col : Option Bool} {dd : Option Addr} {k0 k1 k2 k3 k5 : Option Value} {B newId initId : String} {kw : List (Str × Value)}
theorem check_new_kw (F : ExcBaseFacts B newId initId bmB) (hT : ∀ X : String, bm.contains (.type X) = bmB.contains (.type X)) {rest : List Value} {Q : Unit → Shared → Prop}
    (hC : h.get? C = some (excClassObj nm q C N bs bm hdct sn sub ab col dd k0 k1 k2 k3 k5 newId)) (hq : Q () ⟨h, g, d, t, os⟩) : wpAny M A (checkBuiltinCall newId ⟨.ref C :: rest, kw⟩) Q E ⟨h, g, d, t, os⟩ := by
  have hcont : (Value.ref C :: bm).contains (.type B) = true := by rw [List.contains_cons, hT, F.hasB, Bool.or_true]
  have hstar := F.noStar
  simp only [checkBuiltinCall, F.newKind, F.newSplit, F.newRow]
  repeat (first | refine wpAny_loadPart_at hC ?_ | (refine wpAny_isSubtype_exc hC ?_; rw [hcont]) | refine wpAny_staticBase_exc hC ?_ | refine wpAny_madeBy_exc hC ?_ | simp only [bne_self_eq_false, Bool.false_eq_true, if_false] | wp_step)
  exact hq
end
section
variable {prog : Program} {w : World} {A : Around} {E : Value → Shared → Prop} {R : Result → Shared → Prop} {h : Heap} {g : Array GenState} {d : Drawn} {t : Nat} {os : OsState}
variable {nm q : Str} {C N : Addr} {bs bm bmB : List Value} {hdct : Bool} {sn : List Str} {sub : List Value} {ab : Bool} {col : Option Bool} {dd : Option Addr} {k0 k1 k2 k3 k5 : Option Value} {B newId initId : String} {kw : List (Str × Value)}
theorem new_kw (F : ExcBaseFacts B newId initId bmB) (hT : ∀ X : String, bm.contains (.type X) = bmB.contains (.type X)) {rest : List Value}
    (hC : h.get? C = some (excClassObj nm q C N bs bm hdct sn sub ab col dd k0 k1 k2 k3 k5 newId))
    (hq : R (.ok (.ret (.ref (h.objs.size + 1)))) ⟨(h.push { cls := .type "tuple", data := .seq rest.toArray }).push
      { cls := .ref C, data := .fields #[.ref h.objs.size, .none, .none, .none, .bool false, .none] }, g, d, t, os⟩) (hrest : rest.length ≤ sizeLine) :
    codeAny (model prog w) A (.builtin newId ⟨.ref C :: rest, kw⟩) R ⟨h, g, d, t, os⟩ := by
  have hends := F.ends
  have hcB : (Value.ref C :: bm).contains (.type B) = true := by rw [List.contains_cons, hT, F.hasB, Bool.or_true]
  have hcA : (Value.ref C :: bm).contains (.type "AttributeError") = false := by rw [List.contains_cons, hT, F.noAttr]; rfl
  have hcN : (Value.ref C :: bm).contains (.type "NameError") = false := by rw [List.contains_cons, hT, F.noName]; rfl
  refine codeAny_builtinAt F.entry ?_
  unfold Builtin.«BaseException.__new__»
  refine wpAt_bind ?_
  show wpAt _ _ _ (stack >>= _) _ _ _
  refine wpAt_bind (wpAt_stack fun p below => wpAt_of_wpAny ?_)
  wp_walk
  refine wpAt_of_wpAny ?_
  rw [F.owner]
  repeat (first | with_reducible refine wpAny_madeHere_exc F.canon hC ?_ | with_reducible refine wpAny_loadPart_at hC ?_ | (with_reducible refine wpAny_isSubtype_exc hC ?_; first | rw [hcB] | rw [hcA] | rw [hcN]) | wp_step)
  show R _ _
  rw [Heap.size_push]
  exact hq
theorem type_call_kw (F : ExcBaseFacts B newId initId bmB) (hT : ∀ X : String, bm.contains (.type X) = bmB.contains (.type X)) {rest : List Value} {fI : Addr} {Q : Fin → Shared → Prop}
    (hC : h.get? C = some (excClassObj nm q C N bs bm hdct sn sub ab col dd k0 k1 k2 k3 k5 newId))
    (hi : W.Looks (model prog w) h (typeLookup (.ref C) "__init__") (some (.ref fI))) (hb : ∀ self, W.Looks (model prog w) h (bindSpecial (.ref fI) self) (.ref fI, [self])) (hrest : rest.length ≤ sizeLine)
    (hq : codeAny (model prog w) A (.call (.ref fI) ⟨.ref (h.objs.size + 1) :: rest, kw⟩)
      (fun r s' => match r with | .ok (.ret v) => v = .none ∧ Q (.done (.ret (.ref (h.objs.size + 1)))) s' | .ok _ => False | .error e => E e s')
      ⟨(h.push (W.kdv_tup rest)).push (excO C h.objs.size), g, d, t, os⟩) :
    wpAny (model prog w) A (Builtin.«type.__call__» ⟨.ref C :: rest, kw⟩) Q E ⟨h, g, d, t, os⟩ := by
  repeat (first | with_reducible refine wpAny_loadPart_at hC ?_ | with_reducible refine wpAny_madeBy_exc hC ?_ | wp_step)
  refine codeAny_call_builtin_code (Code.quiet_builtin _ F.quiet) (check_new_kw F hT hC ?_)
  refine new_kw F hT hC ?_ hrest
  show wpAny _ _ _ _ _ _
  have k : ∀ b o, h.get? b = some o → ((h.push (W.kdv_tup rest)).push (excO C h.objs.size)).get? b = some o := fun b o e => Heap.get?_push_of_some _ (Heap.get?_push_of_some _ e)
  have hC₁ := k _ _ hC
  have hget : ((h.push (W.kdv_tup rest)).push (excO C h.objs.size)).get? (h.objs.size + 1) = some (excO C h.objs.size) := by heap_get
  have hcC : (Value.ref C :: bm).contains (.ref C) = true := by simp
  have i1 := hi.keeps k
  have b1 := (hb (.ref (h.objs.size + 1))).keeps k
  unfold isInstance
  repeat (first | with_reducible refine wpAny_loadPart_at hget ?_ | (with_reducible refine wpAny_isSubtype_exc hC₁ ?_; rw [hcC]) | wp_step)
  show wpAny _ _ (typeLookup (.ref C) _) _ _ _
  refine i1.at ?_
  refine wpAny_holding (wpAny_bind (b1.at ?_))
  refine wpAny_bind (wpAny_call (codeAny_mono hq fun r s' z => ?_))
  rcases r with e | (v | _ | _ | _) <;> first | exact z | exact z.elim | skip
  obtain ⟨rfl, z⟩ := z
  first
    | exact wpAny_pure (wpAny_pure z)
    | (wp_walk; exact z)
theorem call_kw (F : ExcBaseFacts B newId initId bmB) (hT : ∀ X : String, bm.contains (.type X) = bmB.contains (.type X)) {rest : List Value} {fI : Addr}
    (hC : h.get? C = some (excClassObj nm q C N bs bm hdct sn sub ab col dd k0 k1 k2 k3 k5 newId))
    (hi : W.Looks (model prog w) h (typeLookup (.ref C) "__init__") (some (.ref fI))) (hb : ∀ self, W.Looks (model prog w) h (bindSpecial (.ref fI) self) (.ref fI, [self])) (hrest : rest.length ≤ sizeLine)
    (hq : codeAny (model prog w) (A.under (.builtin "type.__call__" ⟨.ref C :: rest, kw⟩)) (.call (.ref fI) ⟨.ref (h.objs.size + 1) :: rest, kw⟩) (W.InitBack (h.objs.size + 1) R)
      ⟨(h.push (W.kdv_tup rest)).push (excO C h.objs.size), g, d, t, os⟩) :
    codeAny (model prog w) A (.call (.ref C) ⟨rest, kw⟩) R ⟨h, g, d, t, os⟩ := by
  have f1 := tc_lookup
  have f2 := tc_bind (.ref C)
  have hTy : (⟨h, g, d, t, os⟩ : Shared).TypeIs (.ref C) "type" := ⟨_, hC, rfl⟩
  refine codeAny_of_tree ?_
  show wpAny _ _ (callAny (.ref C) _) _ _ _
  repeat (any_goals (first | assumption | with_reducible refine wpAny_loadPart_at hC ?_ | wp_step))
  refine ⟨rfl, ?_⟩
  refine codeAny_call_builtin_at (Code.quiet_builtin _ (by decide +kernel)) entry_typeCall (wpAny_check_type_call_sub hC (type_call_kw F hT hC hi hb hrest ?_))
  refine codeAny_mono hq fun r s' z => ?_
  rcases r with e | (v | _ | _ | _) <;> exact z
end
end DnX

/-! Dn, part EC: such a class is called: an exception as a value, an exception to be raised. -/
namespace DnX
open PySem PySem.Spec PyProof.Rows L2
/-- what a call of the class asks -/
structure XC (P : Program) (K : PySem.W.Frag) (mg : Str → Option Value) (C : Addr) (lit : Str) (fl : Option (Str × Str)) (params : Arguments) (body : List Stmt) (scope : Scope) (fI : Addr) : Prop where
  S : XSh params body scope lit fl
  W : XCk P K C fI params body scope fl
  kp : PySem.W.keepIn K (.ref C) = true
  su : mg "super" = none
  ex : PySem.W.subIn K (.ref C) (.type "BaseException") = some true
  tC : PySem.W.typeIn K (.ref C) = some (.type "type")
  b0 : fl = none → ∀ e name qual kV doc pm an cdv ct cc, bindArgs (PySem.W.ksFn name qual params body scope .none kV doc pm an cdv ct cc) ⟨[.ref e], []⟩ = pure (bndX e fl none)
  b1 : ∀ x f, fl = some (x, f) → ∀ u e name qual kV doc pm an cdv ct cc, bindArgs (PySem.W.ksFn name qual params body scope .none kV doc pm an cdv ct cc) ⟨[.ref e, u], []⟩ = pure (bndX e fl (some u))
  bk : ∀ x f, fl = some (x, f) → ∀ u e name qual kV doc pm an cdv ct cc, bindArgs (PySem.W.ksFn name qual params body scope .none kV doc pm an cdv ct cc) ⟨[.ref e], [(x, u)]⟩ = pure (bndX e fl (some u))
/-- its fields -/
def fsX (lit : Str) : Option (Str × V) → List (Str × V)
  | none => [("code", .str lit)]
  | some (f, v) => [(f, v), ("code", .str lit)]
def valV : Option (Str × Str) → Option V → Option (Str × V)
  | some (_, f), some v => some (f, v)
  | _, _ => none
theorem exq_ok {P : Program} {w : World} {H : Hp} {h : Heap} {a C dx : Addr} {oe : Obj} {vs : Array Value} (e : h.get? a = some oe) (c : oe.cls = .ref C) (d : oe.dict = some dx) (f : oe.data = .fields vs) : ObjOk P w H h a (exq a C dx) :=
  ⟨⟨oe, vs, e, c, d, f⟩, ⟨oe, e⟩, fun _ _ ⟨o, v, q, r⟩ k => ⟨o, v, k o q, r⟩⟩
theorem boot_super : bootBuiltins "super" = some (.type "super") := by decide +kernel
section
variable {X : Cx} {pins : List (Addr × Obj)} {σ : L2.St} {H : Hp} {C fI : Addr} {lit : Str} {fl : Option (Str × Str)} {params : Arguments} {body : List Stmt} {scope : Scope} {k : Nat}
variable {hp : Heap} {g : Array GenState} {d : Drawn} {t : Nat} {os : OsState}
theorem call_raw (T : XC X.prog X.K X.mg C lit fl params body scope fI) (hr : Room (k + 1) X.A) (I : Inv X pins σ H ⟨hp, g, d, t, os⟩) {us : List Value} {kw : List (Str × Value)} {vo : Option Value} (hz : us.length ≤ sizeLine) (hu : fl.isSome = vo.isSome) {Q : Value → Shared → Prop} {E : Value → Shared → Prop}
    (hb : ∀ e name qual kV doc pm an cdv ct cc, bindArgs (PySem.W.ksFn name qual params body scope .none kV doc pm an cdv ct cc) ⟨.ref e :: us, kw⟩ = pure (bndX e fl vo))
    (hq : ∀ h' tk tk2 a t1 dx, (∀ b o, hp.get? b = some o → h'.get? b = some o) → hp.objs.size ≤ a → hp.objs.size ≤ dx → dx ≠ a → h'.get? a = some (xO C t1 (some dx)) → h'.Ns1 dx (mapX lit tk (valX fl vo)) → Q (.ref a) ⟨h', g, d, tk2, os⟩) :
    wpAny (model X.prog X.w) X.A (call (.ref C) us kw) Q E ⟨hp, g, d, t, os⟩ := by
  obtain ⟨B, newId, initId, bmB, bs, qi, hcd, sup, sub⟩ := T.W.b
  have kI : X.K.In hp := I.kIn
  obtain ⟨nm, N', qn, bs', bm, hdct, sn, sub', ab, col, dd, k0, k1, k2, k3, k5, hC, hT⟩ := PySem.W.excInit_of kI qi
  have kk : ∀ b o, hp.get? b = some o → ((hp.push (PySem.W.kdv_tup us)).push (PySem.HandSPX.excO C hp.objs.size)).get? b = some o := fun b o e => Heap.get?_push_of_some _ (Heap.get?_push_of_some _ e)
  have hget : ((hp.push (PySem.W.kdv_tup us)).push (PySem.HandSPX.excO C hp.objs.size)).get? (hp.objs.size + 1) = some (xO C hp.objs.size none) := by heap_get
  have ke : X.K.lookup (hp.objs.size + 1) = none := by
    cases z : X.K.lookup (hp.objs.size + 1) with
    | none => rfl
    | some o => exact absurd (Heap.lt_size (kI _ _ z)) (Nat.not_lt.mpr (Nat.le_succ _))
  have eC : hp.objs.size + 1 ≠ C := fun z => by
    have := Heap.lt_size hC
    rw [← z] at this
    exact absurd this (Nat.not_lt.mpr (Nat.le_succ _))
  obtain ⟨mb, hmb, hbb⟩ := I.ok.mod.blt
  have sz : ((hp.push (PySem.W.kdv_tup us)).push (PySem.HandSPX.excO C hp.objs.size)).objs.size = hp.objs.size + 2 := by rw [Heap.size_push, Heap.size_push]
  refine wpAny_call (call_kw bs.F hT hC (PySem.W.looks_findIn kI T.W.ini) (fun self => PySem.W.bind_fn kI self T.W.ty) hz ?_)
  refine init_run (vo := vo) T.S T.W (kI.keeps kk) ((I.ok.mod.glob.keeps I.bk).keeps kk) T.su ((hmb.keeps I.bk).keeps kk) ((hbb _ (by decide)).trans boot_super) (I.nolimit.keeps kk) (hr.make C us kw).depth hget eC ke hu (hb _) fun h' tk tk2 t1 dx k6 he' dl dn n6 => ?_
  refine ⟨rfl, ?_⟩
  have key : ∀ b o, hp.get? b = some o → h'.get? b = some o := fun b o z => k6 b o (Nat.ne_of_lt (Nat.lt_of_lt_of_le (Heap.lt_size z) (Nat.le_succ _))) (kk _ _ z)
  rw [sz] at dl
  exact hq h' tk tk2 (hp.objs.size + 1) t1 dx key (Nat.le_succ _) (Nat.le_trans (Nat.le_add_right _ 2) dl) dn he' n6
/-- two new objects are known -/
theorem laid2 {h' : Heap} {t' : Nat} {a dx t1 : Addr} {fs : List (Str × V)} {mA : Str → Option Value} (I : Inv X pins σ H ⟨hp, g, d, t, os⟩) (kk : ∀ b o, hp.get? b = some o → h'.get? b = some o) (la : hp.objs.size ≤ a) (ld : hp.objs.size ≤ dx) (n : dx ≠ a)
    (ha : h'.get? a = some (xO C t1 (some dx))) (hn : h'.Ns1 dx mA) (rel : ∀ f, RelO (fs.lookup f) (mA f)) : Inv X pins σ (upd (upd H dx (.xd fs)) a (exq a C dx)) ⟨h', g, d, t', os⟩ := by
  have na : H a = none := I.hok.fresh la
  have nd : H dx = none := I.hok.fresh ld
  have ne : ∀ {b : Addr} {o : Obj}, hp.get? b = some o → b ≠ a ∧ b ≠ dx := fun {b o} z => ⟨Nat.ne_of_lt (Nat.lt_of_lt_of_le (Heap.lt_size z) la), Nat.ne_of_lt (Nat.lt_of_lt_of_le (Heap.lt_size z) ld)⟩
  have at_ : ∀ {b : Addr} {o : HO}, H b = some o → upd (upd H dx (.xd fs)) a (exq a C dx) b = some o := fun {b o} z => by rw [upd_ne (ne_of_none z na), upd_ne (ne_of_none z nd)]; exact z
  have U : Un X.fs [] H (upd (upd H dx (.xd fs)) a (exq a C dx)) hp h' := {
    keep := fun b o z _ _ _ => kk b o z
    slot := fun b o z _ _ _ => ⟨o.slots, kk b o z⟩
    free := fun b o z q _ => by rw [upd_ne (ne z).1, upd_ne (ne z).2]; exact q
    there := fun b o z _ => ⟨o, kk b o z⟩
    tups := fun b xs z => at_ z
    frzs := fun b o v z => at_ z
    tbls := fun b ps z => ⟨#[], by rw [at_ z]; simp⟩ }
  refine I.un (t' := t') U fun b u e => ?_
  by_cases hb : b = a
  · subst hb
    rw [upd_same] at e
    cases e
    exact exq_ok ha rfl rfl rfl
  · rw [upd_ne hb] at e
    by_cases hd : b = dx
    · subst hd
      rw [upd_same] at e
      cases e
      exact ⟨mA, hn, rel⟩
    · rw [upd_ne hd] at e
      exact (I.hok b u e).stay (fun c v _ q => kk c v q) (fun c q => at_ q) fun c xs q => at_ q
theorem relX {lit : Str} {tk : Tok} {v : Option (Str × V)} {u : Option (Str × Value)} (r : match v, u with | none, none => True | some (f, x), some (f', y) => f = f' ∧ RelV x y | _, _ => False) : ∀ f, RelO ((fsX lit v).lookup f) (mapX lit tk u f) := by
  intro y
  match v, u, r with
  | none, none, _ =>
    unfold fsX mapX
    by_cases c : y = ("code" : Str)
    · subst c
      simp [List.lookup]
      exact ⟨_, rfl⟩
    · have c' : (y == ("code" : Str)) = false := by simpa using c
      simp [List.lookup, c, c']
      trivial
  | some (f, x), some (f', z), r =>
    obtain ⟨rfl, r⟩ := r
    unfold fsX mapX
    by_cases c1 : y = f
    · subst c1
      simp [List.lookup]
      exact r
    · have c1' : (y == f) = false := by simpa using c1
      by_cases c : y = ("code" : Str)
      · subst c
        simp [List.lookup, c1, c1']
        exact ⟨_, rfl⟩
      · have c' : (y == ("code" : Str)) = false := by simpa using c
        simp [List.lookup, c, c', c1, c1']
        trivial
def RelVO : Option V → Option Value → Prop
  | none, none => True
  | some v, some u => RelV v u
  | _, _ => False
theorem vals_rel {v : Option V} {u : Option Value} (r : RelVO v u) : match valV fl v, valX fl u with | none, none => True | some (f, x), some (f', y) => f = f' ∧ RelV x y | _, _ => False := by
  cases fl with
  | none => trivial
  | some q =>
    match v, u, r with
    | none, none, _ => trivial
    | some _, some _, r => exact ⟨rfl, r⟩
theorem exn_made (T : XC X.prog X.K X.mg C lit fl params body scope fI) (hr : Room (k + 1) X.A) {s : Shared} {H1 : Hp} {us : List Value} {kw : List (Str × Value)} {vo : Option Value} {v : Option V} (I : Inv X pins σ H1 s) (hz : us.length ≤ sizeLine) (hu : fl.isSome = vo.isSome) (r : RelVO v vo) {Q : VK} {E : Value → Shared → Prop}
    (hb : ∀ e name qual kV doc pm an cdv ct cc, bindArgs (PySem.W.ksFn name qual params body scope .none kV doc pm an cdv ct cc) ⟨.ref e :: us, kw⟩ = pure (bndX e fl vo))
    (q : ∀ a dx, H1 a = none → H1 dx = none → dx ≠ a → Q (.ref a) (upd (upd H1 dx (.xd (fsX lit (valV fl v)))) a (exq a C dx))) : wpAny (model X.prog X.w) X.A (call (.ref C) us kw) (EP X pins σ Q) E s := by
  obtain ⟨hp, g, d, t, os⟩ := s
  refine call_raw T hr I hz hu hb fun h' tk tk2 a t1 dx kk la ld n ha hn => ?_
  exact ⟨.ref a, _, laid2 I kk la ld n ha hn (relX (vals_rel r)), rfl, q a dx (I.hok.fresh la) (I.hok.fresh ld) n⟩
theorem rai_made (T : XC X.prog X.K X.mg C lit fl params body scope fI) (hr : Room (k + 1) X.A) {s : Shared} {H1 : Hp} {us : List Value} {kw : List (Str × Value)} {vo : Option Value} {v : Option V} (I : Inv X pins σ H1 s) (hz : us.length ≤ sizeLine) (hu : fl.isSome = vo.isSome) (r : RelVO v vo) {Q : XK} {E : Value → Shared → Prop}
    (hb : ∀ e name qual kV doc pm an cdv ct cc, bindArgs (PySem.W.ksFn name qual params body scope .none kV doc pm an cdv ct cc) ⟨.ref e :: us, kw⟩ = pure (bndX e fl vo))
    (q : ∀ dx, H1 dx = none → Q (.ref C) (some dx) (upd H1 dx (.xd (fsX lit (valV fl v))))) : wpAny (model X.prog X.w) X.A (call (.ref C) us kw) (MkP X pins σ Q) E s := by
  obtain ⟨hp, g, d, t, os⟩ := s
  refine call_raw T hr I hz hu hb fun h' tk tk2 a t1 dx kk la ld n ha hn => ?_
  have na : H1 a = none := I.hok.fresh la
  have nd : H1 dx = none := I.hok.fresh ld
  obtain ⟨G, g1, g2⟩ := restrict h' fun b => decide (b ≠ a)
  have gk : ∀ b, b ≠ a → G.get? b = h'.get? b := fun b hb => g1 b (decide_eq_true hb)
  have ge : G.get? a = none := g2 a (by simp)
  have ne : ∀ {b : Addr} {o : Obj}, hp.get? b = some o → b ≠ a ∧ b ≠ dx := fun {b o} z => ⟨Nat.ne_of_lt (Nat.lt_of_lt_of_le (Heap.lt_size z) la), Nat.ne_of_lt (Nat.lt_of_lt_of_le (Heap.lt_size z) ld)⟩
  have kG : ∀ b o, hp.get? b = some o → G.get? b = some o := fun b o z => by rw [gk b (ne z).1]; exact kk b o z
  have at_ : ∀ {b : Addr} {o : HO}, H1 b = some o → upd H1 dx (.xd (fsX lit (valV fl v))) b = some o := fun {b o} z => by rw [upd_ne (ne_of_none z nd)]; exact z
  have U : Un X.fs [] H1 (upd H1 dx (.xd (fsX lit (valV fl v)))) hp G := {
    keep := fun b o z _ _ _ => kG b o z
    slot := fun b o z _ _ _ => ⟨o.slots, kG b o z⟩
    free := fun b o z q _ => by rw [upd_ne (ne z).2]; exact q
    there := fun b o z _ => ⟨o, kG b o z⟩
    tups := fun b xs z => at_ z
    frzs := fun b o v z => at_ z
    tbls := fun b ps z => ⟨#[], by rw [at_ z]; simp⟩ }
  have J : Inv X pins σ (upd H1 dx (.xd (fsX lit (valV fl v)))) ⟨G, g, d, tk2, os⟩ := I.un (t' := tk2) U fun b u e => by
    by_cases hd : b = dx
    · subst hd
      rw [upd_same] at e
      cases e
      exact ⟨_, hn.at fun o z => (gk b n).trans z, relX (vals_rel r)⟩
    · rw [upd_ne hd] at e
      exact (I.hok b u e).stay (fun c v _ q => kG c v q) (fun c q => at_ q) fun c xs q => at_ q
  refine ⟨a, _, _, ⟨G, g, d, tk2, os⟩, _, .ref C, some dx, rfl, J, fun b o z => ?_, ge, ha, ⟨rfl, rfl⟩, rfl, rfl, ?_, rfl, I.bare, raises_own T.ex T.tC, q dx nd⟩
  · by_cases hb : b = a
    · rw [hb, ge] at z
      cases z
    · rw [gk b hb] at z
      exact z
  · rw [upd_ne (Ne.symm n)]
    exact na
/-- C(..), as a value -/
def tExn (C : Addr) (lit : Str) (fl : Option (Str × Str)) (ta : TA) : TE := fun σ H Q => ta σ H fun vs H1 => vs.length = (if fl.isSome then 1 else 0) ∧ ∀ a dx, H1 a = none → H1 dx = none → dx ≠ a → Q (.ref a) (upd (upd H1 dx (.xd (fsX lit (valV fl vs.head?)))) a (exq a C dx))
/-- C(..), to be raised -/
def tRai (C : Addr) (lit : Str) (fl : Option (Str × Str)) (ta : TA) : L2.St → Hp → XK → Prop := fun σ H Q => ta σ H fun vs H1 => vs.length = (if fl.isSome then 1 else 0) ∧ ∀ dx, H1 dx = none → Q (.ref C) (some dx) (upd H1 dx (.xd (fsX lit (valV fl vs.head?))))
theorem args_of (T : XC X.prog X.K X.mg C lit fl params body scope fI) {vs : List V} {us : List Value} (r : Vals vs us) (hl : vs.length = if fl.isSome then 1 else 0) : us.length ≤ sizeLine ∧ fl.isSome = us.head?.isSome ∧ RelVO vs.head? us.head? ∧
    ∀ e name qual kV doc pm an cdv ct cc, bindArgs (PySem.W.ksFn name qual params body scope .none kV doc pm an cdv ct cc) ⟨.ref e :: us, []⟩ = pure (bndX e fl us.head?) := by
  cases fl with
  | none =>
    have : vs = [] := List.length_eq_zero_iff.mp hl
    subst this
    cases r
    exact ⟨Nat.zero_le _, rfl, trivial, T.b0 rfl⟩
  | some q =>
    match vs, hl, r with
    | [v], _, .cons (b := u) r .nil => exact ⟨by show 1 ≤ sizeLine; rw [sizeLine_eq]; omega, rfl, r, T.b1 _ _ rfl u⟩
theorem pe_exn1 (T : XC X.prog X.K X.mg C lit fl params body scope fI) (hr : Room (k + 1) X.A) {x : Str} {p pos : Pos} {e : Expr} {es : List Expr} {ta : TA} (hg : Gl X x) (hm : X.mg x = some (.ref C)) (ha : PA X (e :: es) ta) (hdb : (x == ("__debug__" : Str)) = false) (he : starEach (e :: es) X.env = (false, eval e X.env) :: starEach es X.env) (hpl : (backTo pos (starEach es X.env)).any (·.1) = false) :
    PE X (.Call (.Name x p) (e :: es) [] pos) (tExn C lit fl ta) := by
  refine ⟨fun pins s σ H Q I h => ?_⟩
  refine wpAny_Call_Name_kw (ld_glob I hg hm ?_ hdb)
  exact PySem.W.callWith_K (h₀ := X.base) I.ok.mod.kin T.kp (thn (ha.run pos pins s σ H _ I h) fun us s1 ⟨vs, H1, I1, r1, hz, q1⟩ => ⟨I1.kIn, let ⟨z1, z2, z3, z4⟩ := args_of T r1 hz; exn_made T hr I1 z1 z2 z3 z4 q1⟩) he hpl
theorem pe_exn0 (T : XC X.prog X.K X.mg C lit fl params body scope fI) (hr : Room (k + 1) X.A) {x : Str} {p pos : Pos} (hg : Gl X x) (hm : X.mg x = some (.ref C)) (hdb : (x == ("__debug__" : Str)) = false) : PE X (.Call (.Name x p) [] [] pos) (tExn C lit fl fun _ H Q => Q [] H) := by
  refine ⟨fun pins s σ H Q I h => ?_⟩
  refine wpAny_Call_Name_kw (ld_glob I hg hm ?_ hdb)
  obtain ⟨z1, z2, z3, z4⟩ := args_of T .nil h.1
  exact PySem.W.callWith_K0 I.kIn T.kp (exn_made T hr I z1 z2 z3 z4 h.2)
theorem one_val {v : V} {ws : List Value} (r : Vals [v] ws) : ∃ u, ws = [u] ∧ RelV v u := by
  cases r with
  | cons r r' =>
    cases r'
    exact ⟨_, rfl, r⟩
/-- C(x = e) -/
theorem pe_exnK (T : XC X.prog X.K X.mg C lit fl params body scope fI) (hr : Room (k + 1) X.A) {x y f : Str} {p kp pos : Pos} {e : Expr} {te : TE} (hf : fl = some (y, f)) (hg : Gl X x) (hm : X.mg x = some (.ref C)) (ha : PE X e te) (hdb : (x == ("__debug__" : Str)) = false) :
    PE X (.Call (.Name x p) [] [⟨some y, e, kp⟩] pos) (fun σ H Q => te σ H fun v H1 => ∀ a dx, H1 a = none → H1 dx = none → dx ≠ a → Q (.ref a) (upd (upd H1 dx (.xd (fsX lit (some (f, v))))) a (exq a C dx))) := by
  subst hf
  refine ⟨fun pins s σ H Q I h => ?_⟩
  refine wpAny_Call_Name_kw (ld_glob I hg hm ?_ hdb)
  refine PySem.W.callWith_KW0 (h₀ := X.base) I.ok.mod.kin T.kp rfl ?_ rfl
  have hk := (pk_cons (kpos := kp) (nm := some y) ha (pk_nil (X := X))).run pos pins s σ H (fun vs H1 => match vs with | [v] => ∀ a dx, H1 a = none → H1 dx = none → dx ≠ a → Q (.ref a) (upd (upd H1 dx (.xd (fsX lit (some (f, v))))) a (exq a C dx)) | _ => False) I
  refine thn (hk h) fun ws s2 hz => ?_
  obtain ⟨zs, H2, I2, rz, q2⟩ := hz
  split at q2
  · rename_i v
    obtain ⟨u, e1, r⟩ := one_val rz
    subst e1
    refine ⟨I2.kIn, ?_⟩
    exact exn_made T hr I2 (us := []) (kw := [(y, u)]) (vo := some u) (v := some v) (Nat.zero_le _) rfl r (T.bk _ _ rfl u) q2
  · exact q2.elim
theorem pmk_exn1 (T : XC X.prog X.K X.mg C lit fl params body scope fI) (hr : Room (k + 1) X.A) {x : Str} {p pos : Pos} {e : Expr} {es : List Expr} {ta : TA} (hg : Gl X x) (hm : X.mg x = some (.ref C)) (ha : PA X (e :: es) ta) (hdb : (x == ("__debug__" : Str)) = false) (he : starEach (e :: es) X.env = (false, eval e X.env) :: starEach es X.env) (hpl : (backTo pos (starEach es X.env)).any (·.1) = false) :
    PMk X (.Call (.Name x p) (e :: es) [] pos) (tRai C lit fl ta) := by
  intro pins s σ H Q I h
  refine wpAny_Call_Name_kw (ld_glob I hg hm ?_ hdb)
  exact PySem.W.callWith_K (h₀ := X.base) I.ok.mod.kin T.kp (thn (ha.run pos pins s σ H _ I h) fun us s1 ⟨vs, H1, I1, r1, hz, q1⟩ => ⟨I1.kIn, let ⟨z1, z2, z3, z4⟩ := args_of T r1 hz; rai_made T hr I1 z1 z2 z3 z4 q1⟩) he hpl
theorem pmk_exn0 (T : XC X.prog X.K X.mg C lit fl params body scope fI) (hr : Room (k + 1) X.A) {x : Str} {p pos : Pos} (hg : Gl X x) (hm : X.mg x = some (.ref C)) (hdb : (x == ("__debug__" : Str)) = false) : PMk X (.Call (.Name x p) [] [] pos) (tRai C lit fl fun _ H Q => Q [] H) := by
  intro pins s σ H Q I h
  refine wpAny_Call_Name_kw (ld_glob I hg hm ?_ hdb)
  obtain ⟨z1, z2, z3, z4⟩ := args_of T .nil h.1
  exact PySem.W.callWith_K0 I.kIn T.kp (rai_made T hr I z1 z2 z3 z4 h.2)
end
end DnX

/-! Dn, part EE: an exception as a value is asked. -/
namespace DnX
open PySem PySem.Spec PyProof.Rows L2
/-- e.f -/
def tXfv (K : PySem.W.Frag) (f : Str) (te : TE) : TE := fun σ H Q => te σ H fun x H1 => ∃ (a C dx : Addr) (fs : List (Str × V)) (v : V), x = .ref a ∧ XfC K C ∧ PySem.W.findIn K (.ref C) f = some none ∧ H1 a = some (exq a C dx) ∧ H1 dx = some (.xd fs) ∧ fs.lookup f = some v ∧ Q v H1
theorem inst_at {X : Cx} {pins : List (Addr × Obj)} {σ : L2.St} {H : Hp} {s : Shared} {a C dx : Addr} {fs : List (Str × V)} (I : Inv X pins σ H s) (ea : H a = some (exq a C dx)) (ed : H dx = some (.xd fs)) :
    ∃ oe od mA, PySem.W.InstAt s.heap a oe C (some od) ∧ s.heap.Ns1 dx mA ∧ s.heap.get? dx = some od ∧ ∀ f, RelO (fs.lookup f) (mA f) := by
  obtain ⟨⟨oe, vs, ho, hc, hd, hf⟩, _, _⟩ := I.hok a _ ea
  obtain ⟨mA, hns, hr⟩ := I.hok dx _ ed
  obtain ⟨od, ho2, hl⟩ := lookIn_ns hns
  exact ⟨oe, od, mA, ⟨ho, hc, by unfold PySem.W.notCls; rw [hf] <;> rfl, by rw [hd]; exact ho2⟩, hns, ho2, hr⟩
theorem pe_xfv {X : Cx} {e : Expr} {te : TE} {pos : Pos} {n : Str} (he : PE X e te) (hb : attributeBase e n X.env (eval e X.env) = eval e X.env) : PE X (.Attribute e n pos) (tXfv X.K n te) := by
  refine ⟨fun pins s σ H Q I h => ?_⟩
  refine attr_of hb (thn (he.run pins s σ H _ I h) fun u s1 hh => ?_)
  obtain ⟨x, H1, I1, rx, a, C, dx, fs, v, ex, T, hno, ea, ed, l, q⟩ := hh
  subst ex
  obtain rfl : u = Value.ref a := rx
  obtain ⟨⟨oe, vs, ho, hc, hd, hf⟩, _, _⟩ := I1.hok a _ ea
  obtain ⟨mA, hns, hr⟩ := I1.hok dx _ ed
  obtain ⟨od, ho2, hl⟩ := lookIn_ns hns
  obtain ⟨u, hu, ru⟩ := RelO.some_of (v := v) (o := mA n) (by rw [← l]; exact hr n)
  have J : PySem.W.InstAt s1.heap a oe C (some od) := ⟨ho, hc, by unfold PySem.W.notCls; rw [hf] <;> rfl, by rw [hd]; exact ho2⟩
  exact HandSPX.exc_get I1.kIn J T.ga T.gg T.exC (PySem.W.findObj_own T.hdC hno rfl (by rw [hl, hu])) (handed_of ru) ⟨v, H1, I1.tok _, ru, q⟩
/-- isinstance(e, c) -/
def rIsX (K : PySem.W.Frag) : List V → Hp → VK → Prop := fun xs H Q => ∃ (a D dx : Addr) (fs : List (Str × V)) (c : V) (cv : Value) (b : Bool), xs = [.ref a, c] ∧ ExcC K D ∧ H a = some (exq a D dx) ∧ H dx = some (.xd fs) ∧ (∀ u, RelV c u → u = cv) ∧ PySem.W.kitOne K (.ref D) cv = some b ∧ Q (.bl b) H
theorem call_isX {X : Cx} : CallR X (.builtin "isinstance") (rIsX X.K) := by
  intro pins s σ H xs us Q I r h
  obtain ⟨a, D, dx, fs, c, cv, b, rfl, C, ea, ed, hcv, e, q⟩ := h
  cases r with
  | cons rx rr =>
    cases rr with
    | cons rt rr =>
      cases rr
      cases rx
      have ec := hcv _ rt
      subst ec
      obtain ⟨oe, od, mA, J, _⟩ := inst_at I ea ed
      have hcl : (PySem.W.clsIn X.K D).isSome = true := by
        obtain ⟨cd, h1, _⟩ := PySem.W.any_some C.hd
        rw [h1]
        rfl
      exact PySem.W.kia_one (PySem.W.kitx_exc hcl C.hg C.hk C.hs C.ha C.hn C.ht C.hm) I.kIn J e (fun z => nomatch z) fun tk => ⟨.bl b, H, I.kept (t' := tk) fun _ _ z => z, rfl, q⟩
end DnX

/-! Dn, part A: plain data, the store, results. -/
namespace Dn
open PySem L2

/-- a value: pure data, or an object of the store -/
inductive D where | p (x : P) | ref (n : Nat)
/-- an object of the store; scr: the law's script -/
inductive MO where | lst (l : List D) | dct (l : List (P × D)) | dcT (l : List (P × D)) | ins (c : Nat) (l : List (Nat × D)) | scr (l : List Int)
abbrev Mem := List (Option MO)
/-- a raised exception: its class, its fields -/
structure Ex where (c : Nat) (l : List (Nat × P))
inductive R (α : Type) where | ok (a : α) (m : Mem) | ex (x : Ex) (m : Mem) | no
def R.bind {α β : Type} (r : R α) (f : α → Mem → R β) : R β := match r with | .ok a m => f a m | .ex x m => .ex x m | .no => .no
@[simp] theorem R.bind_ok {α β : Type} (a : α) (m : Mem) (f : α → Mem → R β) : (R.ok a m).bind f = f a m := Eq.trans rfl rfl
@[simp] theorem R.bind_ex {α β : Type} (x : Ex) (m : Mem) (f : α → Mem → R β) : (R.ex x m : R α).bind f = .ex x m := Eq.trans rfl rfl
@[simp] theorem R.bind_no {α β : Type} (f : α → Mem → R β) : (R.no : R α).bind f = .no := Eq.trans rfl rfl

def Mem.get (m : Mem) (n : Nat) : Option MO := (m[n]?).join
def Mem.new (m : Mem) (o : MO) : Mem := m ++ [some o]
def Mem.put (m : Mem) (n : Nat) (o : MO) : Mem := m.set n (some o)
def Mem.kill (m : Mem) (n : Nat) : Mem := m.set n none

def D.flat : D → Bool
  | .p _ => true
  | .ref _ => false
/-- no reference in it -/
def MO.flat : MO → Bool
  | .lst l => l.all D.flat
  | .dct l => l.all fun x => x.2.flat
  | .dcT l => l.all fun x => x.2.flat
  | .ins _ l => l.all fun x => x.2.flat
  | .scr _ => true
/-- m' has m's objects as they are, or objects without references -/
def Tame (m m' : Mem) : Prop := m.length ≤ m'.length ∧ ∀ n, n < m.length → m'[n]? = m[n]? ∨ ∃ o, m'[n]? = some o ∧ ∀ q, o = some q → q.flat = true
open Classical in
/-- a pure result: what was laid on the way is dropped -/
noncomputable def trimR (m : Mem) : R D → R D
  | .ok (.p x) m' => if Tame m m' then .ok (.p x) (m'.take m.length) else .ok (.p x) m'
  | .ex x m' => if Tame m m' then .ex x (m'.take m.length) else .ex x m'
  | r => r

open Classical in
/-- a statement's value is dropped -/
noncomputable def trimU (m : Mem) : R D → R D
  | .ok d m' => if Tame m m' then .ok (.p .non) (m'.take m.length) else .ok (.p .non) m'
  | .ex x m' => if Tame m m' then .ex x (m'.take m.length) else .ex x m'
  | .no => .no

def keyP : P → Option Key
  | .int i => some (.inl i)
  | .str s => some (.inr s)
  | _ => none
def keysP : List P → Option (List Key)
  | [] => some []
  | x :: l => match keyP x, keysP l with
    | some k, some ks => some (k :: ks)
    | _, _ => none
def keyT : P → Option (List Key)
  | .tup l => keysP l
  | _ => none

/-- a key's texts are of a right length -/
def kOk : P → Prop
  | .str s => s.length ≤ sizeLine
  | .tup l => l.length ≤ sizeLine ∧ ∀ s, P.str s ∈ l → s.length ≤ sizeLine
  | _ => True
/-- where the classes stand, what the attributes are called, which classes there are -/
structure Gn where
  K : PySem.W.Frag
  cA : Nat → Addr
  fN : Nat → Str
  cs : Nat → Bool
  xA : Nat → Addr

mutual
inductive RP (g : Gn) (H : Hp) : P → V → Prop
  | non : RP g H .non .non
  | bl (b : Bool) : RP g H (.bl b) (.bl b)
  | int (i : Int) : RP g H (.int i) (.int i)
  | str (s : Str) : s.length ≤ sizeLine → RP g H (.str s) (.str s)
  | tup {a : Addr} {vs : List V} {l : List P} : l.length ≤ sizeLine → H a = some (.tup vs) → RPs g H l vs → RP g H (.tup l) (.ref a)
  | lst {a : Addr} {vs : List V} {l : List P} : l.length ≤ sizeLine → H a = some (.lst vs) → RPs g H l vs → RP g H (.lst l) (.ref a)
  | dK {a : Addr} {kvs : List (Key × V)} {l : List (P × P)} {od : Obj} : l.length ≤ sizeLine → H a = some (.frz od (.dK kvs)) → RPk g H l kvs → RP g H (.dct false l) (.ref a)
  | dT {a : Addr} {kvs : List (List Key × V)} {l : List (P × P)} {od : Obj} : l.length ≤ sizeLine → H a = some (.frz od (.dT kvs)) → RPt g H l kvs → RP g H (.dct true l) (.ref a)
  | ins {a dx : Addr} {fs : List (Str × V)} {c : Nat} {l : List (Nat × P)} : g.cs c = true → H a = some (.ins (g.cA c) dx fs) → RPf g H l fs → RP g H (.ins c l) (.ref a)
  | ktp {a : Addr} {vs : List V} {l : List P} : l.length ≤ sizeLine → (∀ H', SqT g.K H' a vs) → RPs g H l vs → RP g H (.ktp l) (.ref a)
  | cls {c : Nat} : g.cs c = true → RP g H (.cls c) (.ref (g.cA c))
  | scr {a : Addr} {l : List Int} : l.length ≤ sizeLine → SqL g.K H a (l.map V.int) → RP g H (.scr l) (.ref a)
  | exn {a dx : Addr} {fs : List (Str × V)} {c : Nat} {l : List (Nat × P)} : H a = some (DnX.exq a (g.xA c) dx) → H dx = some (.xd fs) → RPf g H l fs → RP g H (.exn c l) (.ref a)
inductive RPs (g : Gn) (H : Hp) : List P → List V → Prop
  | nil : RPs g H [] []
  | cons {x : P} {v : V} {l : List P} {vs : List V} : RP g H x v → RPs g H l vs → RPs g H (x :: l) (v :: vs)
inductive RPk (g : Gn) (H : Hp) : List (P × P) → List (Key × V) → Prop
  | nil : RPk g H [] []
  | cons {k x : P} {κ : Key} {v : V} {l : List (P × P)} {vs : List (Key × V)} : keyP k = some κ → kOk k → RP g H x v → RPk g H l vs → RPk g H ((k, x) :: l) ((κ, v) :: vs)
inductive RPt (g : Gn) (H : Hp) : List (P × P) → List (List Key × V) → Prop
  | nil : RPt g H [] []
  | cons {k x : P} {κ : List Key} {v : V} {l : List (P × P)} {vs : List (List Key × V)} : keyT k = some κ → kOk k → RP g H x v → RPt g H l vs → RPt g H ((k, x) :: l) ((κ, v) :: vs)
inductive RPf (g : Gn) (H : Hp) : List (Nat × P) → List (Str × V) → Prop
  | nil : RPf g H [] []
  | cons {n : Nat} {x : P} {v : V} {l : List (Nat × P)} {vs : List (Str × V)} : RP g H x v → RPf g H l vs → RPf g H ((n, x) :: l) ((g.fN n, v) :: vs)
end

/-- known of F, it stands in H too (a dict may be locked) -/
def Sub (F H : Hp) : Prop := ∀ a o, F a = some o → H a = some o ∨ (((∃ k, o = .dK k) ∨ ∃ k, o = .dT k) ∧ ∃ od, H a = some (.frz od o))
theorem Sub.of {F H : Hp} (h : ∀ a o, F a = some o → H a = some o) : Sub F H := fun a o e => .inl (h a o e)
theorem Sub.rd {F H : Hp} (s : Sub F H) {a : Addr} {u : HO} (hu : (∃ k, u = .dK k) ∨ ∃ k, u = .dT k) (h : Rd F a u) : Rd H a u := by
  rcases h with h | ⟨o, h⟩
  · rcases s a u h with h | ⟨_, od, h⟩
    · exact .inl h
    · exact .inr ⟨od, h⟩
  · rcases s a _ h with h | ⟨z, _⟩
    · exact .inr ⟨o, h⟩
    · rcases z with ⟨k, z⟩ | ⟨k, z⟩ <;> cases z
theorem Sub.frz {F H : Hp} (s : Sub F H) {a : Addr} {od : Obj} {u : HO} (h : F a = some (.frz od u)) : H a = some (.frz od u) := by
  rcases s a _ h with h | ⟨z, _⟩
  · exact h
  · rcases z with ⟨k, z⟩ | ⟨k, z⟩ <;> cases z
theorem Sub.tup {F H : Hp} (s : Sub F H) {a : Addr} {xs : List V} (h : F a = some (.tup xs)) : H a = some (.tup xs) := by
  rcases s a _ h with h | ⟨z, _⟩
  · exact h
  · rcases z with ⟨k, z⟩ | ⟨k, z⟩ <;> cases z
theorem Sub.lst {F H : Hp} (s : Sub F H) {a : Addr} {xs : List V} (h : F a = some (.lst xs)) : H a = some (.lst xs) := by
  rcases s a _ h with h | ⟨z, _⟩
  · exact h
  · rcases z with ⟨k, z⟩ | ⟨k, z⟩ <;> cases z
theorem Sub.seq {K : PySem.W.Frag} {F H : Hp} (s : Sub F H) {a : Addr} {xs : List V} (h : SqL K F a xs) : SqL K H a xs := by
  rcases h with h | h
  · rcases h with h | ⟨o, h⟩
    · exact .inl (.inl (s.lst h))
    · rcases s a _ h with h | ⟨z, _⟩
      · exact .inl (.inr ⟨o, h⟩)
      · rcases z with ⟨k, z⟩ | ⟨k, z⟩ <;> cases z
  · exact .inr h
theorem Sub.ins {F H : Hp} (s : Sub F H) {a C dx : Addr} {fs : List (Str × V)} (h : F a = some (.ins C dx fs)) : H a = some (.ins C dx fs) := by
  rcases s a _ h with h | ⟨z, _⟩
  · exact h
  · rcases z with ⟨k, z⟩ | ⟨k, z⟩ <;> cases z

theorem Sub.exq {F H : Hp} (s : Sub F H) {a b C dx : Addr} (h : F a = some (DnX.exq b C dx)) : H a = some (DnX.exq b C dx) := by
  rcases s a _ h with h | ⟨z, _⟩
  · exact h
  · unfold DnX.exq at z
    rcases z with ⟨k, z⟩ | ⟨k, z⟩ <;> cases z
theorem Sub.xd {F H : Hp} (s : Sub F H) {a : Addr} {fs : List (Str × V)} (h : F a = some (.xd fs)) : H a = some (.xd fs) := by
  rcases s a _ h with h | ⟨z, _⟩
  · exact h
  · rcases z with ⟨k, z⟩ | ⟨k, z⟩ <;> cases z
section
variable {g : Gn} {F H : Hp}
mutual
theorem RP.up (s : Sub F H) {x : P} {v : V} : RP g F x v → RP g H x v
  | .non => .non
  | .bl b => .bl b
  | .int i => .int i
  | .str z n => .str z n
  | .tup n h t => .tup n (s.tup h) (RPs.up s t)
  | .lst n h t => .lst n (s.lst h) (RPs.up s t)
  | .dK n h t => .dK n (s.frz h) (RPk.up s t)
  | .dT n h t => .dT n (s.frz h) (RPt.up s t)
  | .ins z h t => .ins z (s.ins h) (RPf.up s t)
  | .ktp n h t => .ktp n h (RPs.up s t)
  | .cls h => .cls h
  | .scr n h => .scr n (s.seq h)
  | .exn h1 h2 t => .exn (s.exq h1) (s.xd h2) (RPf.up s t)
theorem RPs.up (s : Sub F H) {l : List P} {vs : List V} : RPs g F l vs → RPs g H l vs
  | .nil => .nil
  | .cons h t => .cons (RP.up s h) (RPs.up s t)
theorem RPk.up (s : Sub F H) {l : List (P × P)} {vs : List (Key × V)} : RPk g F l vs → RPk g H l vs
  | .nil => .nil
  | .cons e z h t => .cons e z (RP.up s h) (RPk.up s t)
theorem RPt.up (s : Sub F H) {l : List (P × P)} {vs : List (List Key × V)} : RPt g F l vs → RPt g H l vs
  | .nil => .nil
  | .cons e z h t => .cons e z (RP.up s h) (RPt.up s t)
theorem RPf.up (s : Sub F H) {l : List (Nat × P)} {vs : List (Str × V)} : RPf g F l vs → RPf g H l vs
  | .nil => .nil
  | .cons h t => .cons (RP.up s h) (RPf.up s t)
end
end

mutual
def P.py : P → PyData
  | .non => .none
  | .bl b => .bool b
  | .int i => .int i
  | .str s => .str s
  | .tup l => .tuple (pyL l)
  | .lst l => .list (pyL l)
  | .dct _ _ => .dict []
  | .ins _ _ => .dict []
  | .ktp _ => .dict []
  | .scr _ => .dict []
  | .cls _ => .dict []
  | .exn _ _ => .dict []
def pyL : List P → List PyData
  | [] => []
  | x :: l => x.py :: pyL l
end
mutual
/-- data that == compares by itself -/
def P.dat : P → Bool
  | .non => true
  | .bl _ => true
  | .int _ => true
  | .str _ => true
  | .tup l => datL l
  | .lst l => datL l
  | .dct _ _ => false
  | .ins _ _ => false
  | .ktp _ => false
  | .scr _ => false
  | .cls _ => false
  | .exn _ _ => false
def datL : List P → Bool
  | [] => true
  | x :: l => x.dat && datL l
end
end Dn

/-! Dn, part B: the store as it lies in the heap; a step. -/
namespace Dn
open PySem L2

abbrev Rho := Nat → Addr
/-- m has n -/
def Live (m : Mem) (n : Nat) : Prop := ∃ o, m[n]? = some (some o)

def RD (g : Gn) (ρ : Rho) (F : Hp) (k : Nat) : D → V → Prop
  | .p x, v => RP g F x v
  | .ref n, v => n < k ∧ v = .ref (ρ n)
def RDs (g : Gn) (ρ : Rho) (F : Hp) (k : Nat) : List D → List V → Prop
  | [], [] => True
  | d :: l, v :: vs => RD g ρ F k d v ∧ RDs g ρ F k l vs
  | _, _ => False
def RDk (g : Gn) (ρ : Rho) (F : Hp) (k : Nat) : List (P × D) → List (Key × V) → Prop
  | [], [] => True
  | d :: l, v :: vs => ((keyP d.1 = some v.1 ∧ kOk d.1) ∧ RD g ρ F k d.2 v.2) ∧ RDk g ρ F k l vs
  | _, _ => False
def RDt (g : Gn) (ρ : Rho) (F : Hp) (k : Nat) : List (P × D) → List (List Key × V) → Prop
  | [], [] => True
  | d :: l, v :: vs => ((keyT d.1 = some v.1 ∧ kOk d.1) ∧ RD g ρ F k d.2 v.2) ∧ RDt g ρ F k l vs
  | _, _ => False
def RDf (g : Gn) (ρ : Rho) (F : Hp) (k : Nat) : List (Nat × D) → List (Str × V) → Prop
  | [], [] => True
  | d :: l, v :: vs => (v.1 = g.fN d.1 ∧ RD g ρ F k d.2 v.2) ∧ RDf g ρ F k l vs
  | _, _ => False
def RMO (g : Gn) (ρ : Rho) (F : Hp) (k : Nat) : MO → HO → Prop
  | .lst l, .lst vs => l.length ≤ sizeLine ∧ RDs g ρ F k l vs
  | .dct l, .dK vs => l.length ≤ sizeLine ∧ RDk g ρ F k l vs
  | .dcT l, .dT vs => l.length ≤ sizeLine ∧ RDt g ρ F k l vs
  | .ins c l, .ins C _ fs => (l.length ≤ 100 ∧ C = g.cA c ∧ g.cs c = true) ∧ RDf g ρ F k l fs
  | .scr ns, .frz _ (.lst vs) => vs = ns.map V.int
  | _, _ => False
structure MRel (g : Gn) (ρ : Rho) (F : Hp) (m : Mem) (H : Hp) : Prop where
  sub : Sub F H
  mem : ∀ (n : Nat) (o : MO), m[n]? = some (some o) → F (ρ n) = none ∧ ∃ ho, H (ρ n) = some ho ∧ RMO g ρ F m.length o ho
  inj : ∀ n n', Live m n → Live m n' → ρ n = ρ n' → n = n'
/-- from (ρ, F, m, H) on to (ρ', F', m', H') -/
structure Ext (ρ : Rho) (F : Hp) (m : Mem) (H : Hp) (ρ' : Rho) (F' : Hp) (m' : Mem) (H' : Hp) : Prop where
  sub : ∀ a o, F a = some o → F' a = some o
  len : m.length ≤ m'.length
  agr : ∀ n, n < m.length → ρ' n = ρ n
  dead : ∀ n : Nat, m[n]? = some none → m'[n]? = some none
  fresh : ∀ n, m.length ≤ n → Live m' n → H (ρ' n) = none
  frame : ∀ a o, H a = some o → (∀ n, Live m n → ρ n ≠ a) → H' a = some o
  there : ∀ a o, H a = some o → ∃ o', H' a = some o'
  new : ∀ a o, F' a = some o → F a = some o ∨ H a = none ∨ ∃ n, Live m n ∧ ρ n = a

section
variable {g : Gn} {ρ ρ1 ρ2 : Rho} {F F1 F2 : Hp} {m m1 m2 : Mem} {H H1 H2 : Hp}
theorem Live.lt {n : Nat} (h : Live m n) : n < m.length := by
  obtain ⟨o, e⟩ := h
  exact (List.getElem?_eq_some_iff.mp e).1
theorem Ext.refl : Ext ρ F m H ρ F m H :=
  ⟨fun _ _ h => h, Nat.le_refl _, fun _ _ => rfl, fun _ h => h, fun n h l => absurd l.lt (Nat.not_lt.mpr h), fun _ _ h _ => h, fun _ o h => ⟨o, h⟩, fun _ _ h => .inl h⟩
theorem Ext.live (a : Ext ρ F m H ρ1 F1 m1 H1) {n : Nat} (hn : n < m.length) (l : Live m1 n) : Live m n := by
  cases e : m[n]? with
  | none => exact absurd (List.getElem?_eq_none_iff.mp e) (Nat.not_le.mpr hn)
  | some o =>
    cases o with
    | some o => exact ⟨o, e⟩
    | none =>
      obtain ⟨o, e'⟩ := l
      rw [a.dead n e] at e'
      cases e'
theorem Ext.trans (a : Ext ρ F m H ρ1 F1 m1 H1) (b : Ext ρ1 F1 m1 H1 ρ2 F2 m2 H2) : Ext ρ F m H ρ2 F2 m2 H2 where
  sub := fun x o h => b.sub x o (a.sub x o h)
  len := Nat.le_trans a.len b.len
  agr := fun n h => (b.agr n (Nat.lt_of_lt_of_le h a.len)).trans (a.agr n h)
  dead := fun n h => b.dead n (a.dead n h)
  fresh := fun n h l => by
    by_cases hn : n < m1.length
    · rw [b.agr n hn]
      exact a.fresh n h (b.live hn l)
    · cases e : H (ρ2 n) with
      | none => rfl
      | some o =>
        obtain ⟨o', e'⟩ := a.there _ _ e
        rw [b.fresh n (Nat.not_lt.mp hn) l] at e'
        cases e'
  frame := fun x o h hl => b.frame x o (a.frame x o h hl) fun n l e => by
    by_cases hn : n < m.length
    · exact hl n (a.live hn l) (by rw [← a.agr n hn]; exact e)
    · have := a.fresh n (Nat.not_lt.mp hn) l
      rw [e, h] at this
      cases this
  there := fun x o h => by
    obtain ⟨o1, e1⟩ := a.there x o h
    exact b.there x o1 e1
  new := fun x o h => by
    rcases b.new x o h with h | h | ⟨n, l, e⟩
    · exact a.new x o h
    · refine .inr (.inl ?_)
      cases e : H x with
      | none => rfl
      | some o =>
        obtain ⟨o', e'⟩ := a.there _ _ e
        rw [h] at e'
        cases e'
    · by_cases hn : n < m.length
      · exact .inr (.inr ⟨n, a.live hn l, by rw [← a.agr n hn]; exact e⟩)
      · refine .inr (.inl ?_)
        rw [← e]
        exact a.fresh n (Nat.not_lt.mp hn) l
theorem Ext.Sub (a : Ext ρ F m H ρ1 F1 m1 H1) : Sub F F1 := Sub.of a.sub
theorem RD.mono (a : Ext ρ F m H ρ1 F1 m1 H1) {d : D} {v : V} (h : RD g ρ F m.length d v) : RD g ρ1 F1 m1.length d v := by
  cases d with
  | p x => exact RP.up a.Sub h
  | ref n => exact ⟨Nat.lt_of_lt_of_le h.1 a.len, by rw [a.agr n h.1]; exact h.2⟩
theorem RDs.mono (a : Ext ρ F m H ρ1 F1 m1 H1) : ∀ {l : List D} {vs : List V}, RDs g ρ F m.length l vs → RDs g ρ1 F1 m1.length l vs
  | [], [], _ => trivial
  | _ :: _, _ :: _, h => ⟨RD.mono a h.1, RDs.mono a h.2⟩
  | [], _ :: _, h => h.elim
  | _ :: _, [], h => h.elim
theorem RDk.mono (a : Ext ρ F m H ρ1 F1 m1 H1) : ∀ {l : List (P × D)} {vs : List (Key × V)}, RDk g ρ F m.length l vs → RDk g ρ1 F1 m1.length l vs
  | [], [], _ => trivial
  | _ :: _, _ :: _, h => ⟨⟨h.1.1, RD.mono a h.1.2⟩, RDk.mono a h.2⟩
  | [], _ :: _, h => h.elim
  | _ :: _, [], h => h.elim
theorem RDt.mono (a : Ext ρ F m H ρ1 F1 m1 H1) : ∀ {l : List (P × D)} {vs : List (List Key × V)}, RDt g ρ F m.length l vs → RDt g ρ1 F1 m1.length l vs
  | [], [], _ => trivial
  | _ :: _, _ :: _, h => ⟨⟨h.1.1, RD.mono a h.1.2⟩, RDt.mono a h.2⟩
  | [], _ :: _, h => h.elim
  | _ :: _, [], h => h.elim
theorem RDf.mono (a : Ext ρ F m H ρ1 F1 m1 H1) : ∀ {l : List (Nat × D)} {vs : List (Str × V)}, RDf g ρ F m.length l vs → RDf g ρ1 F1 m1.length l vs
  | [], [], _ => trivial
  | _ :: _, _ :: _, h => ⟨⟨h.1.1, RD.mono a h.1.2⟩, RDf.mono a h.2⟩
  | [], _ :: _, h => h.elim
  | _ :: _, [], h => h.elim
theorem RMO.mono (a : Ext ρ F m H ρ1 F1 m1 H1) {o : MO} {ho : HO} (h : RMO g ρ F m.length o ho) : RMO g ρ1 F1 m1.length o ho := by
  cases o with
  | scr ns => cases ho with
    | frz o u => cases u <;> first | exact h | exact (show False from h).elim
    | _ => exact (show False from h).elim
  | _ => cases ho <;> first
    | exact ⟨h.1, RDs.mono a h.2⟩
    | exact ⟨h.1, RDk.mono a h.2⟩
    | exact ⟨h.1, RDt.mono a h.2⟩
    | exact ⟨h.1, RDf.mono a h.2⟩
    | exact (show False from h).elim
theorem RDs.length : ∀ {k : Nat} {l : List D} {vs : List V}, RDs g ρ F k l vs → l.length = vs.length
  | _, [], [], _ => rfl
  | _, _ :: _, _ :: _, h => congrArg Nat.succ (RDs.length h.2)
  | _, [], _ :: _, h => h.elim
  | _, _ :: _, [], h => h.elim
theorem RDs.get {k : Nat} : ∀ {l : List D} {vs : List V} {i : Nat} {d : D}, RDs g ρ F k l vs → l[i]? = some d → ∃ v, vs[i]? = some v ∧ RD g ρ F k d v
  | [], [], _, _, _, e => by simp at e
  | _ :: _, _ :: _, 0, _, h, e => by
    simp at e
    subst e
    exact ⟨_, rfl, h.1⟩
  | _ :: _, _ :: _, i + 1, _, h, e => by
    obtain ⟨v, e1, r⟩ := RDs.get (i := i) h.2 (by simpa using e)
    exact ⟨v, by simpa using e1, r⟩
  | [], _ :: _, _, _, h, _ => h.elim
  | _ :: _, [], _, _, h, _ => h.elim
theorem RDs.append {k : Nat} : ∀ {l l2 : List D} {vs vs2 : List V}, RDs g ρ F k l vs → RDs g ρ F k l2 vs2 → RDs g ρ F k (l ++ l2) (vs ++ vs2)
  | [], _, [], _, _, h => h
  | _ :: _, _, _ :: _, _, h, t => ⟨h.1, RDs.append h.2 t⟩
  | [], _, _ :: _, _, h, _ => h.elim
  | _ :: _, _, [], _, h, _ => h.elim
theorem RDs.take {k : Nat} : ∀ {l : List D} {vs : List V} (n : Nat), RDs g ρ F k l vs → RDs g ρ F k (l.take n) (vs.take n)
  | [], [], n, _ => by simp [RDs]
  | _ :: _, _ :: _, 0, _ => by simp [RDs]
  | _ :: _, _ :: _, n + 1, h => ⟨h.1, RDs.take n h.2⟩
  | [], _ :: _, _, h => h.elim
  | _ :: _, [], _, h => h.elim
theorem RDs.drop {k : Nat} : ∀ {l : List D} {vs : List V} (n : Nat), RDs g ρ F k l vs → RDs g ρ F k (l.drop n) (vs.drop n)
  | [], [], n, _ => by simp [RDs]
  | _ :: _, _ :: _, 0, h => h
  | _ :: _, _ :: _, n + 1, h => RDs.drop n h.2
  | [], _ :: _, _, h => h.elim
  | _ :: _, [], _, h => h.elim
theorem RDs.set {k : Nat} {d : D} {v : V} (hd : RD g ρ F k d v) : ∀ {l : List D} {vs : List V} (n : Nat), RDs g ρ F k l vs → RDs g ρ F k (l.set n d) (vs.set n v)
  | [], [], n, _ => by simp [RDs]
  | _ :: _, _ :: _, 0, h => ⟨hd, h.2⟩
  | _ :: _, _ :: _, n + 1, h => ⟨h.1, RDs.set hd n h.2⟩
  | [], _ :: _, _, h => h.elim
  | _ :: _, [], _, h => h.elim
theorem RDs.rev {k : Nat} : ∀ {l : List D} {vs : List V}, RDs g ρ F k l vs → RDs g ρ F k l.reverse vs.reverse
  | [], [], _ => trivial
  | d :: l, v :: vs, h => by
    rw [List.reverse_cons, List.reverse_cons]
    exact RDs.append (RDs.rev h.2) ⟨h.1, trivial⟩
  | [], _ :: _, h => h.elim
  | _ :: _, [], h => h.elim
theorem RPs.ds {k : Nat} : ∀ {l : List P} {vs : List V}, RPs g F l vs → RDs g ρ F k (l.map D.p) vs
  | _, _, .nil => trivial
  | _, _, .cons h t => ⟨h, RPs.ds t⟩
theorem RPs.of {k : Nat} : ∀ {l : List P} {vs : List V}, RDs g ρ F k (l.map D.p) vs → RPs g F l vs
  | [], [], _ => .nil
  | _ :: _, _ :: _, h => .cons h.1 (RPs.of h.2)
  | [], _ :: _, h => h.elim
  | _ :: _, [], h => h.elim
theorem RPs.length : ∀ {l : List P} {vs : List V}, RPs g F l vs → l.length = vs.length
  | _, _, .nil => rfl
  | _, _, .cons _ t => congrArg Nat.succ (RPs.length t)

/-! ### steps of the store -/
/-- a new address -/
def ext1 (ρ : Rho) (n : Nat) (a : Addr) : Rho := fun k => if k = n then a else ρ k
theorem ext1_self {ρ : Rho} {n : Nat} {a : Addr} : ext1 ρ n a n = a := if_pos rfl
theorem get_new {o : MO} {n : Nat} : (m.new o)[n]? = if n < m.length then m[n]? else if n = m.length then some (some o) else none := by
  unfold Mem.new
  by_cases h : n < m.length
  · rw [if_pos h, List.getElem?_append_left h]
  · rw [if_neg h, List.getElem?_append_right (Nat.not_lt.mp h)]
    by_cases e : n = m.length
    · subst e; simp
    · rw [if_neg e]
      have : 1 ≤ n - m.length := by omega
      exact List.getElem?_eq_none this
/-- an object laid into the store -/
theorem step_new {o : MO} {ho : HO} {a : Addr} (M : MRel g ρ F m H) (ha : H a = none) (r : RMO g ρ F m.length o ho) :
    Ext ρ F m H (ext1 ρ m.length a) F (m.new o) (upd H a ho) ∧ MRel g (ext1 ρ m.length a) F (m.new o) (upd H a ho) ∧ RD g (ext1 ρ m.length a) F (m.new o).length (.ref m.length) (.ref a) := by
  have neF : F a = none := by
    cases e : F a with
    | none => rfl
    | some o => rcases M.sub a o e with h | ⟨_, _, h⟩ <;> (rw [ha] at h; cases h)
  have agr : ∀ n, n < m.length → ext1 ρ m.length a n = ρ n := fun n h => if_neg (Nat.ne_of_lt h)
  have lt : ∀ n o', m[n]? = some (some o') → n < m.length := fun n o' e => (List.getElem?_eq_some_iff.mp e).1
  have nea : ∀ n o', m[n]? = some (some o') → ρ n ≠ a := fun n o' e z => by
    obtain ⟨_, _, h, _⟩ := M.mem n o' e
    rw [z, ha] at h
    cases h
  have E : Ext ρ F m H (ext1 ρ m.length a) F (m.new o) (upd H a ho) := by
    refine ⟨fun _ _ h => h, by simp [Mem.new], agr, fun n h => ?_, fun n h l => ?_, fun b u h _ => ?_, fun b u h => ?_, fun _ _ h => .inl h⟩
    · rw [get_new, if_pos (List.getElem?_eq_some_iff.mp h).1]; exact h
    · obtain ⟨o', e⟩ := l
      rw [get_new, if_neg (Nat.not_lt.mpr h)] at e
      split at e
      · rename_i e1
        subst e1
        rw [ext1_self]; exact ha
      · cases e
    · rw [upd_ne (ne_of_none h ha)]; exact h
    · exact ⟨u, by rw [upd_ne (ne_of_none h ha)]; exact h⟩
  refine ⟨E, ⟨fun b u h => ?_, fun n o' e => ?_, fun n n' l l' e => ?_⟩, by simp [Mem.new], by rw [ext1_self]⟩
  · have : b ≠ a := fun z => by rw [z, neF] at h; cases h
    rw [upd_ne this]
    exact M.sub b u h
  · rw [get_new] at e
    split at e
    · rename_i hn
      obtain ⟨f, ho', h1, h2⟩ := M.mem n o' e
      rw [agr n hn]
      refine ⟨f, ho', ?_, RMO.mono E h2⟩
      rw [upd_ne (nea n o' e)]; exact h1
    · split at e
      · rename_i hn
        cases e
        subst hn
        rw [ext1_self]
        exact ⟨neF, ho, upd_same, RMO.mono E r⟩
      · cases e
  · obtain ⟨o1, e1⟩ := l
    obtain ⟨o2, e2⟩ := l'
    rw [get_new] at e1 e2
    split at e1
    · rename_i h1
      split at e2
      · rename_i h2
        rw [agr n h1, agr n' h2] at e
        exact M.inj n n' ⟨_, e1⟩ ⟨_, e2⟩ e
      · split at e2
        · rename_i h2
          subst h2
          rw [agr n h1] at e
          have : ext1 ρ m.length a m.length = a := if_pos rfl
          rw [this] at e
          exact absurd e (nea n _ e1)
        · cases e2
    · split at e1
      · rename_i h1
        subst h1
        split at e2
        · rename_i h2
          rw [agr n' h2] at e
          have : ext1 ρ m.length a m.length = a := if_pos rfl
          rw [this] at e
          exact absurd e.symm (nea n' _ e2)
        · split at e2
          · rename_i h2; exact h2.symm
          · cases e2
      · cases e1
theorem get_put {o : MO} {n k : Nat} (h : n < m.length) : (m.put n o)[k]? = if k = n then some (some o) else m[k]? := by
  unfold Mem.put
  by_cases e : k = n
  · subst e; rw [if_pos rfl, List.getElem?_set_self h]
  · rw [if_neg e, List.getElem?_set_ne (Ne.symm e)]
theorem get_kill {n k : Nat} (h : n < m.length) : (m.kill n)[k]? = if k = n then some none else m[k]? := by
  unfold Mem.kill
  by_cases e : k = n
  · subst e; rw [if_pos rfl, List.getElem?_set_self h]
  · rw [if_neg e, List.getElem?_set_ne (Ne.symm e)]
/-- an object of the store changed -/
theorem step_put {o o' : MO} {ho : HO} {n : Nat} (M : MRel g ρ F m H) (hn : m[n]? = some (some o)) (r : RMO g ρ F m.length o' ho) :
    Ext ρ F m H ρ F (m.put n o') (upd H (ρ n) ho) ∧ MRel g ρ F (m.put n o') (upd H (ρ n) ho) := by
  have lt : n < m.length := (List.getElem?_eq_some_iff.mp hn).1
  have len : (m.put n o').length = m.length := by simp [Mem.put]
  obtain ⟨fn, h0, hh, _⟩ := M.mem n o hn
  have E : Ext ρ F m H ρ F (m.put n o') (upd H (ρ n) ho) := by
    refine ⟨fun _ _ h => h, Nat.le_of_eq len.symm, fun _ _ => rfl, fun k h => ?_, fun k h l => ?_, fun b u h hl => ?_, fun b u h => ?_, fun _ _ h => .inl h⟩
    · rw [get_put lt, if_neg]
      · exact h
      · rintro rfl; rw [hn] at h; cases h
    · exact absurd l.lt (by rw [len]; exact Nat.not_lt.mpr h)
    · rw [upd_ne (fun z => hl n ⟨o, hn⟩ z.symm)]; exact h
    · by_cases z : b = ρ n
      · subst z; exact ⟨ho, upd_same⟩
      · exact ⟨u, by rw [upd_ne z]; exact h⟩
  refine ⟨E, ⟨fun b u h => ?_, fun k u e => ?_, fun k k' l l' e => ?_⟩⟩
  · have : b ≠ ρ n := fun z => by rw [z, fn] at h; cases h
    rw [upd_ne this]
    exact M.sub b u h
  · rw [get_put lt] at e
    split at e
    · rename_i z
      cases e
      subst z
      exact ⟨fn, ho, upd_same, by rw [len]; exact r⟩
    · rename_i z
      obtain ⟨f, ho', h1, h2⟩ := M.mem k u e
      refine ⟨f, ho', ?_, by rw [len]; exact h2⟩
      rw [upd_ne (fun q => z (M.inj k n ⟨u, e⟩ ⟨o, hn⟩ q))]; exact h1
  · have up : ∀ k, Live (m.put n o') k → Live m k := fun k ⟨u, e⟩ => by
      rw [get_put lt] at e
      split at e
      · rename_i z; subst z; exact ⟨o, hn⟩
      · exact ⟨u, e⟩
    exact M.inj k k' (up k l) (up k' l') e
/-- pure data laid -/
theorem step_pure {ho : HO} {a : Addr} (M : MRel g ρ F m H) (ha : H a = none) : Ext ρ F m H ρ (upd F a ho) m (upd H a ho) ∧ MRel g ρ (upd F a ho) m (upd H a ho) := by
  have neF : F a = none := by
    cases e : F a with
    | none => rfl
    | some o => rcases M.sub a o e with h | ⟨_, _, h⟩ <;> (rw [ha] at h; cases h)
  have E : Ext ρ F m H ρ (upd F a ho) m (upd H a ho) := by
    refine ⟨fun b u h => ?_, Nat.le_refl _, fun _ _ => rfl, fun _ h => h, fun k h l => absurd l.lt (Nat.not_lt.mpr h), fun b u h _ => ?_, fun b u h => ?_, fun b u h => ?_⟩
    · rw [upd_ne (ne_of_none h neF)]; exact h
    · rw [upd_ne (ne_of_none h ha)]; exact h
    · exact ⟨u, by rw [upd_ne (ne_of_none h ha)]; exact h⟩
    · by_cases z : b = a
      · subst z; exact .inr (.inl ha)
      · rw [upd_ne z] at h; exact .inl h
  refine ⟨E, ⟨fun b u h => ?_, fun k u e => ?_, M.inj⟩⟩
  · by_cases z : b = a
    · subst z
      rw [upd_same] at h
      exact .inl (by rw [upd_same]; exact h)
    · rw [upd_ne z] at h ⊢
      exact M.sub b u h
  · obtain ⟨f, ho', h1, h2⟩ := M.mem k u e
    have : ρ k ≠ a := fun z => by rw [z, ha] at h1; cases h1
    exact ⟨by rw [upd_ne this]; exact f, ho', by rw [upd_ne this]; exact h1, RMO.mono E h2⟩
/-- an object of the store becomes pure -/
theorem step_frz {o : MO} {ho : HO} {n : Nat} (M : MRel g ρ F m H) (hn : m[n]? = some (some o)) (hh : H (ρ n) = some ho) : Ext ρ F m H ρ (upd F (ρ n) ho) (m.kill n) H ∧ MRel g ρ (upd F (ρ n) ho) (m.kill n) H := by
  have lt : n < m.length := (List.getElem?_eq_some_iff.mp hn).1
  have len : (m.kill n).length = m.length := by simp [Mem.kill]
  obtain ⟨fn, _⟩ := M.mem n o hn
  have E : Ext ρ F m H ρ (upd F (ρ n) ho) (m.kill n) H := by
    refine ⟨fun b u h => ?_, Nat.le_of_eq len.symm, fun _ _ => rfl, fun k h => ?_, fun k h l => absurd l.lt (by rw [len]; exact Nat.not_lt.mpr h), fun b u h _ => h, fun b u h => ⟨u, h⟩, fun b u h => ?_⟩
    · rw [upd_ne (ne_of_none h fn)]; exact h
    · rw [get_kill lt]
      split
      · rfl
      · exact h
    · by_cases z : b = ρ n
      · subst z; exact .inr (.inr ⟨n, ⟨o, hn⟩, rfl⟩)
      · rw [upd_ne z] at h; exact .inl h
  refine ⟨E, ⟨fun b u h => ?_, fun k u e => ?_, fun k k' l l' e => ?_⟩⟩
  · by_cases z : b = ρ n
    · subst z
      rw [upd_same] at h
      cases h
      exact .inl hh
    · rw [upd_ne z] at h
      exact M.sub b u h
  · rw [get_kill lt] at e
    split at e
    · cases e
    · rename_i z
      obtain ⟨f, ho', h1, h2⟩ := M.mem k u e
      have : ρ k ≠ ρ n := fun q => z (M.inj k n ⟨u, e⟩ ⟨o, hn⟩ q)
      refine ⟨by rw [upd_ne this]; exact f, ho', h1, ?_⟩
      have := RMO.mono E h2
      exact this
  · have up : ∀ k, Live (m.kill n) k → Live m k := fun k ⟨u, e⟩ => by
      rw [get_kill lt] at e
      split at e
      · cases e
      · exact ⟨u, e⟩
    exact M.inj k k' (up k l) (up k' l') e
/-- an object of the store becomes pure, locked perhaps -/
theorem step_frzX {o : MO} {ho' : HO} {n : Nat} (M : MRel g ρ F m H) (hn : m[n]? = some (some o)) : Ext ρ F m H ρ (upd F (ρ n) ho') (m.kill n) (upd H (ρ n) ho') ∧ MRel g ρ (upd F (ρ n) ho') (m.kill n) (upd H (ρ n) ho') := by
  have lt : n < m.length := (List.getElem?_eq_some_iff.mp hn).1
  have len : (m.kill n).length = m.length := by simp [Mem.kill]
  obtain ⟨fn, ho, hh, _⟩ := M.mem n o hn
  have E : Ext ρ F m H ρ (upd F (ρ n) ho') (m.kill n) (upd H (ρ n) ho') := by
    refine ⟨fun b u h => ?_, Nat.le_of_eq len.symm, fun _ _ => rfl, fun k h => ?_, fun k h l => absurd l.lt (by rw [len]; exact Nat.not_lt.mpr h), fun b u h hl => ?_, fun b u h => ?_, fun b u h => ?_⟩
    · rw [upd_ne (ne_of_none h fn)]; exact h
    · rw [get_kill lt]
      split
      · rfl
      · exact h
    · rw [upd_ne (fun z => hl n ⟨o, hn⟩ z.symm)]; exact h
    · by_cases z : b = ρ n
      · subst z; exact ⟨ho', upd_same⟩
      · exact ⟨u, by rw [upd_ne z]; exact h⟩
    · by_cases z : b = ρ n
      · subst z; exact .inr (.inr ⟨n, ⟨o, hn⟩, rfl⟩)
      · rw [upd_ne z] at h; exact .inl h
  refine ⟨E, ⟨fun b u h => ?_, fun k u e => ?_, fun k k' l l' e => ?_⟩⟩
  · by_cases z : b = ρ n
    · subst z
      rw [upd_same] at h ⊢
      exact .inl h
    · rw [upd_ne z] at h ⊢
      exact M.sub b u h
  · rw [get_kill lt] at e
    split at e
    · cases e
    · rename_i z
      obtain ⟨f, ho2, h1, h2⟩ := M.mem k u e
      have : ρ k ≠ ρ n := fun q => z (M.inj k n ⟨u, e⟩ ⟨o, hn⟩ q)
      refine ⟨by rw [upd_ne this]; exact f, ho2, by rw [upd_ne this]; exact h1, ?_⟩
      have := RMO.mono E h2
      exact this
  · have up : ∀ k, Live (m.kill n) k → Live m k := fun k ⟨u, e⟩ => by
      rw [get_kill lt] at e
      split at e
      · cases e
      · exact ⟨u, e⟩
    exact M.inj k k' (up k l) (up k' l') e
end


/-! ### trimming -/
section
variable {g : Gn} {ρ ρ1 : Rho} {F F1 : Hp} {m m1 : Mem} {H H1 : Hp}
theorem RD.low {ρ0 : Rho} {F0 : Hp} {k K : Nat} {d : D} {v u : V} (h : RD g ρ F K d v) (h0 : RD g ρ0 F0 k d u) : RD g ρ F k d v := by
  cases d with
  | p x => exact h
  | ref n => exact ⟨h0.1, h.2⟩
theorem RD.flat {k K : Nat} {d : D} {v : V} (h : RD g ρ F K d v) (hf : d.flat = true) : RD g ρ F k d v := by
  cases d with
  | p x => exact h
  | ref n => cases hf
theorem RDs.low {ρ0 : Rho} {F0 : Hp} {k K : Nat} : ∀ {l : List D} {vs us : List V}, RDs g ρ F K l vs → RDs g ρ0 F0 k l us → RDs g ρ F k l vs
  | [], [], _, _, _ => trivial
  | _ :: _, _ :: _, _ :: _, h, h0 => ⟨RD.low h.1 h0.1, RDs.low h.2 h0.2⟩
  | _ :: _, _ :: _, [], _, h0 => h0.elim
  | [], _ :: _, _, h, _ => h.elim
  | _ :: _, [], _, h, _ => h.elim
theorem RDs.flat {k K : Nat} : ∀ {l : List D} {vs : List V}, RDs g ρ F K l vs → l.all D.flat = true → RDs g ρ F k l vs
  | [], [], _, _ => trivial
  | _ :: _, _ :: _, h, f => by
    rw [List.all_cons, Bool.and_eq_true] at f
    exact ⟨RD.flat h.1 f.1, RDs.flat h.2 f.2⟩
  | [], _ :: _, h, _ => h.elim
  | _ :: _, [], h, _ => h.elim
theorem RDk.low {ρ0 : Rho} {F0 : Hp} {k K : Nat} : ∀ {l : List (P × D)} {vs us : List (Key × V)}, RDk g ρ F K l vs → RDk g ρ0 F0 k l us → RDk g ρ F k l vs
  | [], [], _, _, _ => trivial
  | _ :: _, _ :: _, _ :: _, h, h0 => ⟨⟨h.1.1, RD.low h.1.2 h0.1.2⟩, RDk.low h.2 h0.2⟩
  | _ :: _, _ :: _, [], _, h0 => h0.elim
  | [], _ :: _, _, h, _ => h.elim
  | _ :: _, [], _, h, _ => h.elim
theorem RDk.flat {k K : Nat} : ∀ {l : List (P × D)} {vs : List (Key × V)}, RDk g ρ F K l vs → (l.all fun x => x.2.flat) = true → RDk g ρ F k l vs
  | [], [], _, _ => trivial
  | _ :: _, _ :: _, h, f => by
    rw [List.all_cons, Bool.and_eq_true] at f
    exact ⟨⟨h.1.1, RD.flat h.1.2 f.1⟩, RDk.flat h.2 f.2⟩
  | [], _ :: _, h, _ => h.elim
  | _ :: _, [], h, _ => h.elim
theorem RDt.low {ρ0 : Rho} {F0 : Hp} {k K : Nat} : ∀ {l : List (P × D)} {vs us : List (List Key × V)}, RDt g ρ F K l vs → RDt g ρ0 F0 k l us → RDt g ρ F k l vs
  | [], [], _, _, _ => trivial
  | _ :: _, _ :: _, _ :: _, h, h0 => ⟨⟨h.1.1, RD.low h.1.2 h0.1.2⟩, RDt.low h.2 h0.2⟩
  | _ :: _, _ :: _, [], _, h0 => h0.elim
  | [], _ :: _, _, h, _ => h.elim
  | _ :: _, [], _, h, _ => h.elim
theorem RDt.flat {k K : Nat} : ∀ {l : List (P × D)} {vs : List (List Key × V)}, RDt g ρ F K l vs → (l.all fun x => x.2.flat) = true → RDt g ρ F k l vs
  | [], [], _, _ => trivial
  | _ :: _, _ :: _, h, f => by
    rw [List.all_cons, Bool.and_eq_true] at f
    exact ⟨⟨h.1.1, RD.flat h.1.2 f.1⟩, RDt.flat h.2 f.2⟩
  | [], _ :: _, h, _ => h.elim
  | _ :: _, [], h, _ => h.elim
theorem RDf.low {ρ0 : Rho} {F0 : Hp} {k K : Nat} : ∀ {l : List (Nat × D)} {vs us : List (Str × V)}, RDf g ρ F K l vs → RDf g ρ0 F0 k l us → RDf g ρ F k l vs
  | [], [], _, _, _ => trivial
  | _ :: _, _ :: _, _ :: _, h, h0 => ⟨⟨h.1.1, RD.low h.1.2 h0.1.2⟩, RDf.low h.2 h0.2⟩
  | _ :: _, _ :: _, [], _, h0 => h0.elim
  | [], _ :: _, _, h, _ => h.elim
  | _ :: _, [], _, h, _ => h.elim
theorem RDf.flat {k K : Nat} : ∀ {l : List (Nat × D)} {vs : List (Str × V)}, RDf g ρ F K l vs → (l.all fun x => x.2.flat) = true → RDf g ρ F k l vs
  | [], [], _, _ => trivial
  | _ :: _, _ :: _, h, f => by
    rw [List.all_cons, Bool.and_eq_true] at f
    exact ⟨⟨h.1.1, RD.flat h.1.2 f.1⟩, RDf.flat h.2 f.2⟩
  | [], _ :: _, h, _ => h.elim
  | _ :: _, [], h, _ => h.elim
theorem RMO.low {ρ0 : Rho} {F0 : Hp} {k K : Nat} {o : MO} {ho h1 : HO} (h : RMO g ρ F K o ho) (h0 : RMO g ρ0 F0 k o h1) : RMO g ρ F k o ho := by
  cases o with
  | scr ns => cases ho with
    | frz o u => cases u <;> first | exact h | exact (show False from h).elim
    | _ => exact (show False from h).elim
  | lst l => cases ho <;> first | exact (show False from h).elim | (cases h1 <;> first | exact (show False from h0).elim | exact ⟨h.1, RDs.low h.2 h0.2⟩)
  | dct l => cases ho <;> first | exact (show False from h).elim | (cases h1 <;> first | exact (show False from h0).elim | exact ⟨h.1, RDk.low h.2 h0.2⟩)
  | dcT l => cases ho <;> first | exact (show False from h).elim | (cases h1 <;> first | exact (show False from h0).elim | exact ⟨h.1, RDt.low h.2 h0.2⟩)
  | ins c l => cases ho <;> first | exact (show False from h).elim | (cases h1 <;> first | exact (show False from h0).elim | exact ⟨h.1, RDf.low h.2 h0.2⟩)
theorem RMO.flat {k K : Nat} {o : MO} {ho : HO} (h : RMO g ρ F K o ho) (hf : o.flat = true) : RMO g ρ F k o ho := by
  cases o with
  | scr ns => cases ho with
    | frz o u => cases u <;> first | exact h | exact (show False from h).elim
    | _ => exact (show False from h).elim
  | lst l => cases ho <;> first | exact (show False from h).elim | exact ⟨h.1, RDs.flat h.2 hf⟩
  | dct l => cases ho <;> first | exact (show False from h).elim | exact ⟨h.1, RDk.flat h.2 hf⟩
  | dcT l => cases ho <;> first | exact (show False from h).elim | exact ⟨h.1, RDt.flat h.2 hf⟩
  | ins c l => cases ho <;> first | exact (show False from h).elim | exact ⟨h.1, RDf.flat h.2 hf⟩
theorem step_trim (M : MRel g ρ F m H) (E : Ext ρ F m H ρ1 F1 m1 H1) (M1 : MRel g ρ1 F1 m1 H1) (t : Tame m m1) : Ext ρ F m H ρ1 F1 (m1.take m.length) H1 ∧ MRel g ρ1 F1 (m1.take m.length) H1 := by
  have len : (m1.take m.length).length = m.length := by rw [List.length_take]; exact Nat.min_eq_left t.1
  have at_ : ∀ n, n < m.length → (m1.take m.length)[n]? = m1[n]? := fun n h => List.getElem?_take_of_lt h
  have up : ∀ n, Live (m1.take m.length) n → n < m.length ∧ Live m1 n := fun n l => by
    have h := l.lt
    rw [len] at h
    obtain ⟨o, e⟩ := l
    rw [at_ n h] at e
    exact ⟨h, o, e⟩
  refine ⟨⟨E.sub, Nat.le_of_eq len.symm, E.agr, fun n h => ?_, fun n h l => absurd (up n l).1 (Nat.not_lt.mpr h), E.frame, E.there, E.new⟩, ⟨M1.sub, fun n o e => ?_, fun n n' l l' e => M1.inj n n' (up n l).2 (up n' l').2 e⟩⟩
  · rw [at_ n (List.getElem?_eq_some_iff.mp h).1]; exact E.dead n h
  · obtain ⟨hn, _⟩ := up n ⟨o, e⟩
    rw [at_ n hn] at e
    obtain ⟨f, ho, h1, h2⟩ := M1.mem n o e
    refine ⟨f, ho, h1, ?_⟩
    rw [len]
    rcases t.2 n hn with q | ⟨o', q1, q2⟩
    · rw [e] at q
      obtain ⟨_, h0, _, h3⟩ := M.mem n o q.symm
      exact RMO.low h2 h3
    · rw [e] at q1
      cases q1
      exact RMO.flat h2 (q2 o rfl)
end

/-! ### what a result asks -/
/-- an exception as it flies: its class, its own dict -/
def RX (g : Gn) (F : Hp) (x : Ex) (cls : Value) (dd : Option Addr) (H : Hp) : Prop :=
  cls = .ref (g.xA x.c) ∧ ∃ d fs, dd = some d ∧ H d = some (.xd fs) ∧ RPf g F x.l fs
/-- a result r from (ρ, F, m, H): what is wanted of its value, of an exception -/
def Post {α β : Type} (g : Gn) (rel : Rho → Hp → Nat → α → β → Prop) (ρ : Rho) (F : Hp) (m : Mem) (H : Hp) (r : R α) (Q : β → Hp → Prop) (E : XK) : Prop := match r with
  | .ok d m' => ∀ v H' ρ' F', Ext ρ F m H ρ' F' m' H' → MRel g ρ' F' m' H' → rel ρ' F' m'.length d v → Q v H'
  | .ex x m' => ∀ cls dd H' ρ' F', Ext ρ F m H ρ' F' m' H' → MRel g ρ' F' m' H' → RX g F' x cls dd H' → E cls dd H'
  | .no => False
theorem trim_post {g : Gn} {ρ : Rho} {F : Hp} {m : Mem} {H : Hp} {r : R D} {Q : V → Hp → Prop} {E : XK} (M : MRel g ρ F m H) (h : Post g (RD g) ρ F m H (trimR m r) Q E) : Post g (RD g) ρ F m H r Q E := by
  cases r with
  | ok d m' =>
    cases d with
    | ref n => exact h
    | p x =>
      by_cases t : Tame m m'
      · have e : trimR m (.ok (.p x) m') = .ok (.p x) (m'.take m.length) := if_pos t
        rw [e] at h
        intro v H' ρ' F' x1 M1 r1
        obtain ⟨x2, M2⟩ := step_trim M x1 M1 t
        exact h v H' ρ' F' x2 M2 r1
      · have e : trimR m (.ok (.p x) m') = .ok (.p x) m' := if_neg t
        rw [e] at h
        exact h
  | ex x m' =>
    by_cases t : Tame m m'
    · have e : trimR m (.ex x m') = .ex x (m'.take m.length) := if_pos t
      rw [e] at h
      intro cls dd H' ρ' F' x1 M1 r1
      obtain ⟨x2, M2⟩ := step_trim M x1 M1 t
      exact h cls dd H' ρ' F' x2 M2 r1
    · have e : trimR m (.ex x m') = .ex x m' := if_neg t
      rw [e] at h
      exact h
  | no => exact h
theorem trimU_post {g : Gn} {ρ : Rho} {F : Hp} {m : Mem} {H : Hp} {r : R D} {Q : Hp → Prop} {E : XK} (M : MRel g ρ F m H) (h : Post g (RD g) ρ F m H (trimU m r) (fun _ => Q) E) : Post g (RD g) ρ F m H r (fun _ => Q) E := by
  cases r with
  | ok d m' =>
    by_cases t : Tame m m'
    · have e : trimU m (.ok d m') = .ok (.p .non) (m'.take m.length) := if_pos t
      rw [e] at h
      intro v H' ρ' F' x1 M1 r1
      obtain ⟨x2, M2⟩ := step_trim M x1 M1 t
      exact h .non H' ρ' F' x2 M2 RP.non
    · have e : trimU m (.ok d m') = .ok (.p .non) m' := if_neg t
      rw [e] at h
      exact fun v H' ρ' F' x1 M1 r1 => h .non H' ρ' F' x1 M1 RP.non
  | ex x m' =>
    by_cases t : Tame m m'
    · have e : trimU m (.ex x m') = .ex x (m'.take m.length) := if_pos t
      rw [e] at h
      intro cls dd H' ρ' F' x1 M1 r1
      obtain ⟨x2, M2⟩ := step_trim M x1 M1 t
      exact h cls dd H' ρ' F' x2 M2 r1
    · have e : trimU m (.ex x m') = .ex x m' := if_neg t
      rw [e] at h
      exact h
  | no => exact h
theorem Post.on {α β : Type} {g : Gn} {rel : Rho → Hp → Nat → α → β → Prop} {ρ ρ1 : Rho} {F F1 : Hp} {m m1 : Mem} {H H1 : Hp} {r : R α} {Q : β → Hp → Prop} {E : XK} (a : Ext ρ F m H ρ1 F1 m1 H1) (h : Post g rel ρ F m H r Q E) : Post g rel ρ1 F1 m1 H1 r Q E := by
  cases r with
  | ok d m' => exact fun v H' ρ' F' e M q => h v H' ρ' F' (a.trans e) M q
  | ex x m' => exact fun cls dd H' ρ' F' e M q => h cls dd H' ρ' F' (a.trans e) M q
  | no => exact h.elim
/-- the slots -/
structure RSl (g : Gn) (ρ : Rho) (F : Hp) (k : Nat) (δ : List (Option D)) (σ : L2.St) : Prop where
  len : δ.length ≤ σ.length
  get : ∀ (i : Nat) (d : D), δ[i]? = some (some d) → ∃ v, σ[i]? = some (some v) ∧ RD g ρ F k d v
theorem RSl.mono {g : Gn} {ρ ρ1 : Rho} {F F1 : Hp} {m m1 : Mem} {H H1 : Hp} {δ : List (Option D)} {σ : L2.St} (a : Ext ρ F m H ρ1 F1 m1 H1) (h : RSl g ρ F m.length δ σ) : RSl g ρ1 F1 m1.length δ σ := ⟨h.len, fun i d e => by
  obtain ⟨v, e1, r⟩ := h.get i d e
  exact ⟨v, e1, r.mono a⟩⟩
theorem RSl.set {g : Gn} {ρ : Rho} {F : Hp} {k : Nat} {δ : List (Option D)} {σ : L2.St} {d : D} {v : V} (h : RSl g ρ F k δ σ) (i : Nat) (r : RD g ρ F k d v) : RSl g ρ F k (δ.set i (some d)) (σ.set i (some v)) := ⟨by simpa using h.len, fun j e q => by
  by_cases z : i = j
  · subst z
    have hl : i < δ.length := by
      have := (List.getElem?_eq_some_iff.mp q).1
      simpa using this
    rw [List.getElem?_set_self hl] at q
    cases q
    exact ⟨v, List.getElem?_set_self (Nat.lt_of_lt_of_le hl h.len), r⟩
  · rw [List.getElem?_set_ne z] at q ⊢
    exact h.get j e q⟩
theorem RSl.wipe1 {g : Gn} {ρ : Rho} {F : Hp} {k : Nat} {δ : List (Option D)} {σ : L2.St} (h : RSl g ρ F k δ σ) (i : Nat) : RSl g ρ F k (δ.set i none) (σ.set i none) := ⟨by simpa using h.len, fun j e q => by
  by_cases z : i = j
  · subst z
    have hl : i < δ.length := by
      have := (List.getElem?_eq_some_iff.mp q).1
      simpa using this
    rw [List.getElem?_set_self hl] at q
    cases q
  · rw [List.getElem?_set_ne z] at q ⊢
    exact h.get j e q⟩
end Dn

/-! Dn, part C: the copied syntax and its evaluation. -/
noncomputable section
namespace Dn
open PySem L2

def RL.plain : RL → Bool
  | .nil => true
  | .cons _ l => l.plain
  | .star _ _ => false
def RL.len : RL → Nat
  | .nil => 0
  | .cons _ l => l.len + 1
  | .star _ l => l.len + 1
/-! ### values -/
def allP : List D → Option (List P)
  | [] => some []
  | .p x :: l => (allP l).map (x :: ·)
  | .ref _ :: _ => none
/-- read through one list of the store -/
def rdP (m : Mem) : D → Option P
  | .p x => some x
  | .ref n => match m.get n with
    | some (.lst l) => (allP l).map P.lst
    | _ => none
def P.shp (x : P) : Bool := x.dat && SeqAt.shaped x.py
def eqP (x y : P) : Option Bool := match x, y with
  | .str a, .str b => some (decide (a = b))
  | x, y => if x.shp && y.shp then some (PyData.eqv x.py y.py) else none
/-- a new list (of a length that is known to be right) -/
def mkL (mu : Bool) (l : List D) (m : Mem) : R D := match mu, allP l with
  | false, some ps => .ok (.p (.lst ps)) m
  | _, _ => .ok (.ref m.length) (m.new (.lst l))
def mkT (l : List D) (m : Mem) : R D := match allP l with
  | some ps => .ok (.p (.tup ps)) m
  | none => .no
/-- a length that is not known before -/
def lnS {α : Type} (pl : Bool) (f : List D → Mem → R α) (l : List D) (m : Mem) : R α := match pl with
  | true => f l m
  | false => if l.length ≤ sizeLine then f l m else .no
/-- a list's or tuple's items -/
def seqD (m : Mem) : D → Option (List D)
  | .p (.lst l) => some (l.map D.p)
  | .p (.tup l) => some (l.map D.p)
  | .p (.ktp l) => some (l.map D.p)
  | .ref n => match m.get n with
    | some (.lst l) => some l
    | _ => none
  | _ => none
/-- a list, not a tuple -/
def isLst : D → Bool
  | .p (.lst _) => true
  | .ref _ => true
  | _ => false
def flatP : P → Bool
  | .non => true
  | .bl _ => true
  | .int _ => true
  | .str _ => true
  | _ => false
def hasS (z y : Str) : Bool := match y.cps.toList with
  | [c] => decide (c ∈ z.cps.toList)
  | _ => !(Builtin.Str.occurrences z y 0 z.length 1).isEmpty
/-- a dict's item: none where the key is none of its kind -/
def dget (t : Bool) (l : List (P × P)) (k : P) : Option (Option P) := match t with
  | false => match keyP k with
    | some κ => some ((l.find? fun kv => decide (keyP kv.1 = some κ)).map (·.2))
    | none => none
  | true => match keyT k with
    | some κ => some ((l.find? fun kv => decide (keyT kv.1 = some κ)).map (·.2))
    | none => none
/-- has a dict an equal item -/
def eqItem (x : P) (o : Option P) : Bool := match o with
  | some y => PyData.eqv x.py y.py
  | none => false
def eqD1 (r : List (P × P)) (kv : P × P) : Bool := match keyP kv.1 with
  | some κ => eqItem kv.2 ((r.find? fun q => decide (keyP q.1 = some κ)).map (·.2))
  | none => false
/-- ==, of dicts, too -/
def eqQ (x y : P) : Option Bool := match x, y with
  | .dct false l, .dct false r => if (l.all fun kv => kv.2.shp) && (r.all fun kv => kv.2.shp) then some (decide (l.length = r.length) && l.all (eqD1 r)) else none
  | x, y => eqP x y
def inP (x y : P) : Option Bool := match y with
  | .str b => (match x with
    | .str a => some (hasS b a)
    | _ => none)
  | .lst l => if x.shp && (P.lst l).shp then some (l.any fun z => PyData.eqv z.py x.py) else none
  | .tup l => if flatP x && l.all flatP then some (l.any fun z => PyData.eqv z.py x.py) else none
  | .ktp l => if flatP x && l.all flatP then some (l.any fun z => PyData.eqv z.py x.py) else none
  | .dct t l => (dget t l x).map (·.isSome)
  | _ => none
def ltP (x y : P) : Option Bool := match x, y with
  | .int a, .int b => some (decide (a < b))
  | .str a, .str b => some (decide (a.cps.toList < b.cps.toList))
  | _, _ => none
def leP (x y : P) : Option Bool := match x, y with
  | .int a, .int b => some (decide (a ≤ b))
  | _, _ => none
def isN : D → Bool
  | .p .non => true
  | _ => false
def oB (o : Option Bool) (m : Mem) : R D := match o with | some b => .ok (.p (.bl b)) m | none => .no
def cmpB (f : P → P → Option Bool) (a b : D) (m : Mem) : R D := match rdP m a, rdP m b with
  | some x, some y => oB (f x y) m
  | _, _ => .no
def cmpS (o : COp) (a b : D) (m : Mem) : R D := match o with
  | .isn => if isN b then .ok (.p (.bl (isN a))) m else .no
  | .notn => if isN b then .ok (.p (.bl (!isN a))) m else .no
  | .eq => cmpB eqQ a b m
  | .ne => cmpB (fun x y => (eqP x y).map (!·)) a b m
  | .lt => cmpB ltP a b m
  | .gt => cmpB (fun x y => ltP y x) a b m
  | .le => cmpB leP a b m
  | .ge => cmpB (fun x y => leP y x) a b m
  | .inn => cmpB inP a b m
  | .nin => cmpB (fun x y => (inP x y).map (!·)) a b m
def mulOk (i j : Int) : Bool := (decide (-(2 ^ 64) < i) && decide (i < 2 ^ 64)) || (decide (-(2 ^ 64) < j) && decide (j < 2 ^ 64))
def isTupD : D → Bool
  | .p (.tup _) => true
  | .p (.ktp _) => true
  | _ => false
def catS (a b : D) (m : Mem) : R D := if (isTupD a || isTupD b) = true then .no else match seqD m a, seqD m b with
  | some x, some y => if x.length + y.length ≤ sizeLine then mkL false (x ++ y) m else .no
  | _, _ => .no
def binS (o : BOp) (a b : D) (m : Mem) : R D := match o, a, b with
  | .add, .p (.int i), .p (.int j) => .ok (.p (.int (i + j))) m
  | .sub, .p (.int i), .p (.int j) => .ok (.p (.int (i - j))) m
  | .mul, .p (.int i), .p (.int j) => if mulOk i j then .ok (.p (.int (i * j))) m else .no
  | .mod, .p (.int i), .p (.int j) => if 0 < j then .ok (.p (.int (i % j))) m else .no
  | .fdiv, .p (.int i), .p (.int j) => if 0 < j ∧ j < 1073741824 then .ok (.p (.int (i / j))) m else .no
  | .pow, .p (.int i), .p (.int j) => if 0 ≤ j ∧ j ≤ 1000000 ∧ i.natAbs < 2 ^ 64 then .ok (.p (.int (i ^ j.toNat))) m else .no
  | .add, .p (.str x), .p (.str y) => if x.length + y.length ≤ sizeLine then .ok (.p (.str (x ++ y))) m else .no
  | .add, .p (.tup x), .p (.tup y) => if x.length + y.length ≤ sizeLine then .ok (.p (.tup (x ++ y))) m else .no
  | .mul, .p (.lst x), .p (.int j) => if -(2 ^ 63) ≤ j ∧ j < 2 ^ 63 ∧ x.length * j.toNat ≤ sizeLine then .ok (.p (.lst (List.replicate j.toNat x).flatten)) m else .no
  | .add, a, b => catS a b m
  | _, _, _ => .no
def tyS : Ty → String
  | .int => "int" | .bool => "bool" | .str => "str" | .list => "list" | .tuple => "tuple" | .dict => "dict" | .own _ => ""
/-- the kind of a value -/
def kindS : D → Mem → Option (Nat ⊕ String)
  | .p .non, _ => some (.inr "NoneType")
  | .p (.bl _), _ => some (.inr "bool")
  | .p (.int _), _ => some (.inr "int")
  | .p (.str _), _ => some (.inr "str")
  | .p (.lst _), _ => some (.inr "list")
  | .p (.tup _), _ => some (.inr "tuple")
  | .p (.dct false _), _ => some (.inr "dict")
  | .p (.dct true _), _ => none
  | .p (.ins k _), _ => some (.inl k)
  | .p (.ktp _), _ => none
  | .p (.scr _), _ => none
  | .p (.cls _), _ => none
  | .p (.exn _ _), _ => none
  | .ref n, m => match m.get n with
    | some (.lst _) => some (.inr "list")
    | some (.dct _) => some (.inr "dict")
    | some (.dcT _) => some (.inr "dict")
    | some (.ins k _) => some (.inl k)
    | _ => none
def isK (c : Ty) : Nat ⊕ String → Bool
  | .inl k => match c with | .own j => decide (j = k) | _ => false
  | .inr s => match c with | .int => s == "int" || s == "bool" | .own _ => false | t => s == tyS t
def isTy (c : Ty) (d : D) (m : Mem) : Option Bool := (kindS d m).map (isK c)
def isTys (l : List Ty) (d : D) (m : Mem) : Option Bool := match l with
  | [] => some false
  | c :: l => match isTy c d m with
    | some true => some true
    | some false => isTys l d m
    | none => none
/-- an item of a dict of the store -/
def dgetD (t : Bool) (l : List (P × D)) (k : P) : Option (Option D) := match t with
  | false => match keyP k with
    | some κ => some ((l.find? fun kv => decide (keyP kv.1 = some κ)).map (·.2))
    | none => none
  | true => match keyT k with
    | some κ => some ((l.find? fun kv => decide (keyT kv.1 = some κ)).map (·.2))
    | none => none
def dctR (a : D) (k : P) (m : Mem) : R D := match a with
  | .ref n => (match m.get n with
    | some (.dct l) => (match dgetD false l k with | some (some d) => .ok d m | _ => .no)
    | some (.dcT l) => (match dgetD true l k with | some (some d) => .ok d m | _ => .no)
    | _ => .no)
  | _ => .no
/-- .. put -/
def putDk (l : List (P × D)) (k : P) (κ : Key) (e : D) : List (P × D) := if (l.any fun kv => decide (keyP kv.1 = some κ)) = true then l.map fun kv => if keyP kv.1 = some κ then (kv.1, e) else kv else l ++ [(k, e)]
def putDt (l : List (P × D)) (k : P) (κ : List Key) (e : D) : List (P × D) := if (l.any fun kv => decide (keyT kv.1 = some κ)) = true then l.map fun kv => if keyT kv.1 = some κ then (kv.1, e) else kv else l ++ [(k, e)]
def dctW (n : Nat) (k : P) (e : D) (m : Mem) : R Unit := match m.get n with
  | some (.dct l) => (match keyP k with
    | some κ => if l.length < sizeLine then .ok () (m.put n (.dct (putDk l k κ e))) else .no
    | none => .no)
  | some (.dcT l) => (match keyT k with
    | some κ => if l.length < sizeLine then .ok () (m.put n (.dcT (putDt l k κ e))) else .no
    | none => .no)
  | _ => .no
def ixS (a b : D) (m : Mem) : R D := match a, b with
  | .p (.str z), .p (.int i) => (match atI z.cps.toList i with | some c => .ok (.p (.str ⟨#[c]⟩)) m | none => .no)
  | .p (.dct t l), .p k => match dget t l k with
    | some (some x) => .ok (.p x) m
    | _ => .no
  | a, .p (.int i) => match seqD m a with
    | some l => (match atI l i with | some d => .ok d m | none => .no)
    | none => dctR a (.int i) m
  | a, .p k => dctR a k m
  | _, _ => .no
def cutD {α : Type} (xs : List α) (lo hi : Option Int) : List α := (xs.drop (HT.sIx xs.length 0 lo)).take (HT.sIx xs.length xs.length hi - HT.sIx xs.length 0 lo)
def slS (a : D) (lo hi : Option Int) (m : Mem) : R D := match a with
  | .p (.str z) => .ok (.p (.str (cutS z lo hi))) m
  | .p (.lst l) => .ok (.p (.lst (cutD l lo hi))) m
  | .p (.scr ns) => .ok (.p (.lst ((cutD ns lo hi).map P.int))) m
  | .p (.tup l) => .ok (.p (.tup (cutD l lo hi))) m
  | .ref n => match m.get n with
    | some (.lst l) => (match allP l with | some ps => .ok (.p (.lst (cutD ps lo hi))) m | none => .ok (.ref m.length) (m.new (.lst (cutD l lo hi))))
    | _ => .no
  | _ => .no
def strsP : List P → Option (List Str)
  | [] => some []
  | .str s :: l => (strsP l).map (s :: ·)
  | _ :: _ => none
def intsP : List P → Option (List Int)
  | [] => some []
  | .int s :: l => (intsP l).map (s :: ·)
  | _ :: _ => none
def blsP : List P → Option (List Bool)
  | [] => some []
  | .bl s :: l => (blsP l).map (s :: ·)
  | _ :: _ => none
/-- the keys of a dict of the store (ints and texts) -/
def dctK (a : D) (m : Mem) : Option (List P) := match a with
  | .ref n => (match m.get n with
    | some (.dct l) => some (l.map (·.1))
    | _ => none)
  | _ => none
def lenS (a : D) (m : Mem) : R D := match a with
  | .p (.str z) => .ok (.p (.int z.length)) m
  | .p (.dct false l) => .ok (.p (.int l.length)) m
  | a => match seqD m a with
    | some l => .ok (.p (.int l.length)) m
    | none => (match dctK a m with
      | some ks => .ok (.p (.int ks.length)) m
      | none => .no)
def intS (a : D) (m : Mem) : R D := match a with
  | .p (.int i) => .ok (.p (.int i)) m
  | .p (.bl b) => .ok (.p (.int (if b then 1 else 0))) m
  | .p (.str z) => match PySem.intText? z with
    | some n => if z.length ≤ 640 then .ok (.p (.int n)) m else .no
    | none => .no
  | _ => .no
def onL {α : Type} (f : List P → Option α) (g : α → P) (a : D) (m : Mem) : R D := match rdP m a with
  | some (.lst l) => (match f l with | some x => .ok (.p (g x)) m | none => .no)
  | _ => .no
/-- list(x): a list, a tuple, a dict's keys -/
def listS (mu : Bool) (a : D) (m : Mem) : R D := match a with
  | .p (.dct false l) => mkL mu (l.map fun kv => .p kv.1) m
  | a => match seqD m a with
    | some l => mkL mu l m
    | none => (match dctK a m with
      | some ks => mkL mu (ks.map D.p) m
      | none => .no)
def tupleS (a : D) (m : Mem) : R D := if isTupD a = true then .ok a m else match seqD m a with
  | some l => mkT l m
  | none => .no
def absS (a : D) (m : Mem) : R D := match a with
  | .p (.int i) => .ok (.p (.int (if i < 0 then -i else i))) m
  | _ => .no
def strS (a : D) (m : Mem) : R D := match a with
  | .p (.int i) => if i.natAbs.log2 < 1920 then .ok (.p (.str (toString i))) m else .no
  | .p (.str z) => .ok (.p (.str z)) m
  | _ => .no
/-- a list's pure items -/
def lstP (m : Mem) (a : D) : Option (List P) := match rdP m a with
  | some (.lst l) => some l
  | _ => none
def leS (a b : Str) : Bool := !decide (b.cps.toList < a.cps.toList)
def sortS (l : List Str) : List Str := l.mergeSort leS
def sortI (l : List Int) : List Int := l.mergeSort fun a b => decide (a ≤ b)
def sortedS (a : D) (m : Mem) : R D := match a with
  | .p (.dct false l) => (match strsP (l.map (·.1)) with
    | some ss => if ss.length < 64 then .ok (.p (.lst ((sortS ss).map P.str))) m else .no
    | none => .no)
  | a => (match lstP m a with
    | some l => (match strsP l with
      | some ss => if ss.length < 64 then .ok (.p (.lst ((sortS ss).map P.str))) m else .no
      | none => (match intsP l with
        | some ns => .ok (.p (.lst ((sortI ns).map P.int))) m
        | none => .no))
    | none => (match (dctK a m).bind strsP with
      | some ss => if ss.length < 64 then .ok (.p (.lst ((sortS ss).map P.str))) m else .no
      | none => .no))
def maxI : List Int → Int
  | [] => 0
  | [a] => a
  | a :: l => max a (maxI l)
def minI : List Int → Int
  | [] => 0
  | [a] => a
  | a :: l => min a (minI l)
def mmS (big : Bool) (a : D) (m : Mem) : R D := match lstP m a with
  | some l => (match intsP l with
    | some ns => if ns = [] then .no else .ok (.p (.int (if big then maxI ns else minI ns))) m
    | none => .no)
  | none => .no
def minS (l : List D) (m : Mem) : R D := match l with
  | [.p (.int i), .p (.int j)] => .ok (.p (.int (if j < i then j else i))) m
  | [a] => mmS false a m
  | _ => .no
def maxS (l : List D) (m : Mem) : R D := match l with
  | [.p (.int i), .p (.int j)] => .ok (.p (.int (if j > i then j else i))) m
  | [a] => mmS true a m
  | _ => .no
def bcl1 (f : BF) (l : List D) (m : Mem) : R D := match l with
  | [a] => (match f with
    | .sorted => sortedS a m
    | .min => .no
    | .max => .no
    | .len => lenS a m
    | .int => intS a m
    | .abs => absS a m
    | .list => listS false a m
    | .listM => listS true a m
    | .repr => .no
    | .tuple => tupleS a m
    | .all => onL blsP (fun bs => .bl (bs.all id)) a m
    | .any => onL blsP (fun bs => .bl (bs.any id)) a m
    | .sum => onL intsP (fun ns => .int ns.sum) a m
    | .str => strS a m)
  | _ => .no
def bclS (f : BF) (l : List D) (m : Mem) : R D := match f with
  | .min => minS l m
  | .max => maxS l m
  | f => bcl1 f l m
def seqP (m : Mem) (a : D) : Option (List P) := match seqD m a with
  | some l => allP l
  | none => none
def joinS (a : D) (l : List D) (m : Mem) : R D := match a, l with
  | .p (.str s), [b] => (match (seqP m b).bind strsP with
    | some ss => if (ss.map Str.length).sum + ss.length * s.length ≤ 16777216 then .ok (.p (.str (Txt.join s ss))) m else .no
    | none => .no)
  | _, _ => .no
def appendS (a : D) (l : List D) (m : Mem) : R D := match a, l with
  | .ref n, [d] => (match m.get n with
    | some (.lst l) => if l.length < sizeLine then .ok (.p .non) (m.put n (.lst (l ++ [d]))) else .no
    | _ => .no)
  | _, _ => .no
def reverseS (a : D) (l : List D) (m : Mem) : R D := match a, l with
  | .ref n, [] => (match m.get n with
    | some (.lst l) => .ok (.p .non) (m.put n (.lst l.reverse))
    | _ => .no)
  | _, _ => .no
def clearS (a : D) (l : List D) (m : Mem) : R D := match a, l with
  | .ref n, [] => (match m.get n with
    | some (.lst _) => .ok (.p .non) (m.put n (.lst []))
    | _ => .no)
  | _, _ => .no
def splitS (a : D) (l : List D) (m : Mem) : R D := match a, l with
  | .p (.str s), [.p (.str t)] => if (t.length == 0) = false ∧ s.length + 2 ≤ sizeLine then .ok (.p (.lst ((Txt.split s t).map P.str))) m else .no
  | _, _ => .no
def extendS (a : D) (l : List D) (m : Mem) : R D := match a, l with
  | .ref n, [d] => (match m.get n with
    | some (.lst l) => if isLst d = true then (match seqD m d with
      | some ys => if l.length + ys.length ≤ sizeLine then .ok (.p .non) (m.put n (.lst (l ++ ys))) else .no
      | none => .no) else .no
    | _ => .no)
  | _, _ => .no
def insertS (a : D) (l : List D) (m : Mem) : R D := match a, l with
  | .ref n, [.p (.int i), d] => (match m.get n with
    | some (.lst l) => if l.length < sizeLine ∧ 0 ≤ i ∧ i < 2 ^ 63 then .ok (.p .non) (m.put n (.lst (l.take i.toNat ++ [d] ++ l.drop i.toNat))) else .no
    | _ => .no)
  | _, _ => .no
def popS (a : D) (l : List D) (m : Mem) : R D := match a, l with
  | .ref n, [] => (match m.get n with
    | some (.lst l) => (match l[l.length - 1]? with
      | some d => .ok d (m.put n (.lst l.dropLast))
      | none => .no)
    | _ => .no)
  | _, _ => .no
def indexS (a : D) (l : List D) (m : Mem) : R D := match l with
  | [.p y] => (match lstP m a with
    | some l => if y.shp = true ∧ (P.lst l).shp = true then (match l.findIdx? fun z => PyData.eqv z.py y.py with
      | some j => .ok (.p (.int (j : Nat))) m
      | none => .no) else .no
    | none => .no)
  | _ => .no
def bmtS (f : BM) (a : D) (l : List D) (m : Mem) : R D := match f with
  | .extend => extendS a l m
  | .insert => insertS a l m
  | .pop => popS a l m
  | .index => indexS a l m
  | .join => joinS a l m
  | .append => appendS a l m
  | .reverse => reverseS a l m
  | .clear => clearS a l m
  | .split => splitS a l m
def bmL : BM → Bool
  | .append => true
  | .reverse => true
  | .clear => true
  | .extend => true
  | .insert => true
  | .pop => true
  | .index => true
  | _ => false
/-- whose method it is -/
def bmPre (f : BM) (a : D) (m : Mem) : Bool := match a with
  | .p (.str _) => !bmL f
  | .p (.lst _) => (match f with | .index => true | _ => false)
  | .ref n => (match m.get n with
    | some (.lst _) => bmL f
    | _ => false)
  | _ => false
def isetS (a b e : D) (m : Mem) : R Unit := match a, b with
  | .ref n, .p (.int i) => match m.get n with
    | some (.lst l) => (match ixN l.length i with | some j => .ok () (m.put n (.lst (l.set j e))) | none => .no)
    | _ => dctW n (.int i) e m
  | .ref n, .p k => dctW n k e m
  | _, _ => .no
/-- an object becomes pure data, with what it holds -/
def frzL (f : D → Mem → Option (P × Mem)) : List D → Mem → Option (List P × Mem)
  | [], m => some ([], m)
  | d :: l, m => match f d m with
    | some (x, m) => (match frzL f l m with
      | some (xs, m) => some (x :: xs, m)
      | none => none)
    | none => none
def frzN : Nat → D → Mem → Option (P × Mem)
  | _, .p x, m => some (x, m)
  | 0, .ref _, _ => none
  | k + 1, .ref n, m => match m.get n with
    | some (.lst l) => (match frzL (frzN k) l m with
      | some (ps, m) => if (m.get n).isSome then some (.lst ps, m.kill n) else none
      | none => none)
    | some (.dct l) => (match frzL (frzN k) (l.map (·.2)) m with
      | some (ps, m) => if (m.get n).isSome then some (.dct false ((l.map (·.1)).zip ps), m.kill n) else none
      | none => none)
    | some (.dcT l) => (match frzL (frzN k) (l.map (·.2)) m with
      | some (ps, m) => if (m.get n).isSome then some (.dct true ((l.map (·.1)).zip ps), m.kill n) else none
      | none => none)
    | some (.ins c l) => (match frzL (frzN k) (l.map (·.2)) m with
      | some (ps, m) => if (m.get n).isSome then some (.ins c ((l.map (·.1)).zip ps), m.kill n) else none
      | none => none)
    | _ => none
def frzS (d : D) (m : Mem) : R D := match frzN 5 d m with
  | some (x, m) => .ok (.p x) m
  | none => .no

/-- pairs put into an empty dict -/
def putP (l : List (P × P)) (t : Bool) (k x : P) : Option (List (P × P)) := match t with
  | false => match keyP k with
    | some κ => some (if (l.any fun kv => decide (keyP kv.1 = some κ)) = true then l.map fun kv => if keyP kv.1 = some κ then (kv.1, x) else kv else l ++ [(k, x)])
    | none => none
  | true => none
def putsP : List (P × P) → List (P × P) → Option (List (P × P))
  | acc, [] => some acc
  | acc, kv :: l => match putP acc false kv.1 kv.2 with
    | some acc' => putsP acc' l
    | none => none
def dctO (o : Option (List (P × P))) (m : Mem) : R D := match o with | some l => .ok (.p (.dct false l)) m | none => .no
/-- a pure list's or tuple's items; is it a tuple -/
def pseq : D → Option (Bool × List P)
  | .p (.lst l) => some (false, l)
  | .p (.tup l) => some (true, l)
  | .p (.ktp l) => some (true, l)
  | _ => none
/-- a list's or tuple's pure items; the list of the store that must stand -/
def psq (m : Mem) (d : D) : Option (Bool × List P × Option (Nat × List D)) := match d with
  | .ref n => (match m.get n with
    | some (.lst l) => (allP l).map fun ps => (false, ps, some (n, l))
    | _ => none)
  | d => (pseq d).map fun x => (x.1, x.2, none)
def dzipS (x y : D) (m : Mem) : R D := match psq m x, psq m y with
  | some (_, ks, _), some (_, vs, _) => dctO (putsP [] (ks.zip vs)) m
  | _, _ => .no
/-- keys and values by turns -/
def pairsP : List P → Option (List (P × P))
  | [] => some []
  | k :: v :: l => (pairsP l).map ((k, v) :: ·)
  | _ => none
def dispS (l : List D) (m : Mem) : R D := match allP l with
  | some ps => (match pairsP ps with
    | some kvs => if kvs.length ≤ 15 then dctO (putsP [] kvs) m else .no
    | none => .no)
  | none => .no
/-- a program's tables: its module's constants; a class's methods; may a class's instances be asked for an own field of that name; __init__; a class's constants -/
structure Gv where
  c : Nat → P
  mt : Nat → Nat → Option Nat
  fk : Nat → Nat → Bool
  ini : Nat → Option Nat
  cc : Nat → Nat → Option P
  /-- a class's own __len__ (0), __repr__ (1), __contains__ (2), __eq__ (3), __bool__ (4) -/
  om : Nat → Nat → Option Nat
  /-- a method that is called by the class's name: its def; does it take the class -/
  sm : Nat → Nat → Option (Nat × Bool)
  /-- a property: its getter's def -/
  pr : Nat → Nat → Option Nat
  /-- an own exception: its code's field and text, its argument's field -/
  xc : Nat → Option (Nat × Str × Option Nat)
  xsub : Nat → XT → Option Bool
/-- o.f -/
def lookF {α : Type} : List (Nat × α) → Nat → Option α
  | [], _ => none
  | (k, x) :: l, f => if k = f then some x else lookF l f
def fldS (gv : Gv) (f : Nat) (d : D) (m : Mem) : R D := match d with
  | .p (.ins c l) => if gv.fk c f = true then (match lookF l f with | some x => .ok (.p x) m | none => .no) else .no
  | .ref n => match m.get n with
    | some (.ins c l) => if gv.fk c f = true then (match lookF l f with | some x => .ok x m | none => .no) else .no
    | _ => .no
  | _ => .no
/-- an exception's fields -/
def excF (gv : Gv) (c : Nat) (xs : List D) : Option (List (Nat × P)) := match gv.xc c with
  | some (k, z, none) => (match xs with | [] => some [(k, .str z)] | _ => none)
  | some (k, z, some f) => (match xs with | [.p x] => some [(f, x), (k, .str z)] | _ => none)
  | none => none
def excS (gv : Gv) (c : Nat) (xs : List D) (m : Mem) : R D := match excF gv c xs with
  | some l => .ok (.p (.exn c l)) m
  | none => .no
def xfS (gv : Gv) (f : Nat) (d : D) (m : Mem) : R D := match d with
  | .p (.exn c l) => (match gv.xc c with
    | some (k, _, fo) => if f = k ∨ fo = some f then (match lookF l f with | some x => .ok (.p x) m | none => .no) else .no
    | none => .no)
  | _ => .no
def xisS (gv : Gv) (t : XT) (d : D) (m : Mem) : R D := match d with
  | .p (.exn c _) => (match gv.xsub c t with | some b => .ok (.p (.bl b)) m | none => .no)
  | _ => .no
/-- the class of an instance -/
def clsS (d : D) (m : Mem) : Option Nat := match d with
  | .p (.ins c _) => some c
  | .ref n => match m.get n with
    | some (.ins c _) => some c
    | _ => none
  | _ => none
/-- has it an own field of that name -/
def setF {α : Type} : List (Nat × α) → Nat → α → List (Nat × α)
  | [], f, y => [(f, y)]
  | (k, x) :: l, f, y => if k = f then (f, y) :: l else (k, x) :: setF l f y
def fsetS (gv : Gv) (f : Nat) (a y : D) (m : Mem) : R Unit := match a with
  | .ref n => match m.get n with
    | some (.ins c l) => if gv.fk c f = true ∧ l.length < 100 then .ok () (m.put n (.ins c (setF l f y))) else .no
    | _ => .no
  | _ => .no
/-! ### targets, walks -/
abbrev Sl := List (Option D)
mutual
def asgT : T → D → Mem → Sl → Option Sl
  | .nm i, d, _, δ => some (δ.set i (some d))
  | .tp l, d, m, δ => match seqD m d with
    | some ds => asgTL l ds m δ
    | none => none
def asgTL : TL → List D → Mem → Sl → Option Sl
  | .nil, [], _, δ => some δ
  | .cons t l, d :: ds, m, δ => match asgT t d m δ with
    | some δ' => asgTL l ds m δ'
    | none => none
  | _, _, _, _ => none
end
def wipeD (δ : Sl) : List Nat → Sl
  | [] => δ
  | v :: vs => (wipeD δ vs).set v none
/-- items, and the list of the store that must stand as it is while it is walked -/
structure Its where
  l : List D
  n : Option (Nat × List D)
def Its.held (t : Its) (m : Mem) : Prop := match t.n with
  | none => True
  | some n => m.get n.1 = some (.lst n.2)
def zip3P : List P → List P → List P → List D
  | a :: l, b :: r, c :: q => .p (.tup [a, b, c]) :: zip3P l r q
  | _, _, _ => []
def zipP : List P → List P → List D
  | a :: l, b :: r => .p (.tup [a, b]) :: zipP l r
  | _, _ => []
def itSeq (d : D) (m : Mem) : Option Its := match d with
  | .p (.lst l) => some ⟨l.map D.p, none⟩
  | .p (.tup l) => some ⟨l.map D.p, none⟩
  | .p (.ktp l) => some ⟨l.map D.p, none⟩
  | .p (.str z) => some ⟨z.cps.toList.map fun c => .p (.str ⟨#[c]⟩), none⟩
  | .ref n => match m.get n with
    | some (.lst l) => some ⟨l, some (n, l)⟩
    | _ => none
  | _ => none
def itRng (d : D) : Option Its := match d with
  | .p (.int i) => if -(2 ^ 62) ≤ i ∧ i ≤ sizeLine then some ⟨(List.range i.toNat).map fun (k : Nat) => .p (.int (k : Int)), none⟩ else none
  | _ => none
def itRng2 (d e : D) : Option Its := match d, e with
  | .p (.int i), .p (.int j) => if -(2 ^ 61) ≤ i ∧ i < 2 ^ 61 ∧ -(2 ^ 61) ≤ j ∧ j < 2 ^ 61 ∧ j - i ≤ sizeLine then some ⟨(List.range (j - i).toNat).map fun (k : Nat) => .p (.int (i + (k : Int))), none⟩ else none
  | _, _ => none
def enumP : Nat → List P → List D
  | k, a :: l => .p (.tup [.int k, a]) :: enumP (k + 1) l
  | _, [] => []
def itEnum (a : D) (m : Mem) : Option Its := match a with
  | .p (.lst l) => some ⟨enumP 0 l, none⟩
  | .p (.tup l) => some ⟨enumP 0 l, none⟩
  | .ref n => match m.get n with
    | some (.lst l) => (match allP l with | some ps => some ⟨enumP 0 ps, some (n, l)⟩ | none => none)
    | _ => none
  | _ => none
def hold2 {α : Type} (a b : Option α) : Option (Option α) := match a, b with
  | none, b => some b
  | a, none => some a
  | _, _ => none
def itZip (l : List D) (m : Mem) : Option Its := match l with
  | [a] => (match psq m a with | some (_, x, h) => some ⟨x.map fun p => .p (.tup [p]), h⟩ | _ => none)
  | [a, b] => (match psq m a, psq m b with | some (_, x, h), some (_, y, h') => (hold2 h h').map fun q => ⟨zipP x y, q⟩ | _, _ => none)
  | [a, b, c] => (match psq m a, psq m b, psq m c with | some (_, x, h), some (_, y, h'), some (_, z, h'') => (hold2 h h').bind fun q => (hold2 q h'').map fun q => ⟨zip3P x y z, q⟩ | _, _, _ => none)
  | _ => none
def itKeys : D → Option Its
  | .p (.dct false l) => some ⟨l.map fun kv => .p kv.1, none⟩
  | _ => none
def oR {α : Type} (o : Option α) (m : Mem) : R α := match o with | some a => .ok a m | none => .no
/-- what a comprehension's turn may not do: raise -/
def R.calm {α : Type} : R α → R α
  | .ok a m => .ok a m
  | _ => .no
def asB (d : D) (m : Mem) : R Bool := match d with
  | .p (.bl b) => .ok b m
  | _ => .no
open Classical in
def lcRun (f : D → Mem → R (Option D)) (t : Its) : List D → Mem → R (List D)
  | [], m => if t.held m then .ok [] m else .no
  | x :: xs, m => if t.held m then (f x m).calm.bind fun o m1 => (lcRun f t xs m1).bind fun ys m2 => .ok (o.toList ++ ys) m2 else .no

open Classical in
/-- two clauses -/
def lc2Run (f : D → Mem → R (Option Sl)) (h : Sl → Mem → R Its) (k : Sl → D → Mem → R (Option D)) (t : Its) : List D → Mem → R (List D)
  | [], m => if t.held m then .ok [] m else .no
  | x :: xs, m => if t.held m then (f x m).calm.bind fun o m1 => (match o with
      | none => lc2Run f h k t xs m1
      | some δ1 => (h δ1 m1).calm.bind fun its1 m2 => (lcRun (k δ1) its1 its1.l m2).bind fun ys m3 => (lc2Run f h k t xs m3).bind fun zs m4 => .ok (ys ++ zs) m4) else .no
def fmtS (d : D) (m : Mem) : R D := match d with
  | .p (.str s) => .ok (.p (.str s)) m
  | .p (.int i) => if i.natAbs.log2 < 1920 then .ok (.p (.str (toString i))) m else .no
  | _ => .no
def addS (acc : Str) (x : D) : Option Str := match x with
  | .p (.str s) => if (acc ++ s).length ≤ sizeLine then some (acc ++ s) else none
  | _ => none
def revS (d : D) (m : Mem) : R D := match d with
  | .p (.lst l) => .ok (.p (.lst l.reverse)) m
  | _ => .no
/-- two pure values -/
def pairS (y z : D) (m : Mem) : R (Option (P × P)) := match y, z with
  | .p y, .p z => .ok (some (y, z)) m
  | _, _ => .no
open Classical in
/-- a dict comprehension: a pure dict -/
def dcRun (t : Bool) (f : D → Mem → R (Option (P × P))) (i : Its) : List D → List (P × P) → Mem → R D
  | [], acc, m => if i.held m then .ok (.p (.dct t acc)) m else .no
  | x :: xs, acc, m => if i.held m then (f x m).calm.bind fun o m1 => (match o with
      | none => dcRun t f i xs acc m1
      | some (k, v) => match putP acc t k v with
        | some acc' => dcRun t f i xs acc' m1
        | none => .no) else .no
/-- a new instance, its __init__ -/
def makeS (cl : Nat → List D → Mem → R D) (c f : Nat) (xs : List D) (m : Mem) : R D := (cl f (.ref m.length :: xs) (m.new (.ins c []))).bind fun r m' => (match r with | .p .non => .ok (.ref m.length) m' | _ => .no)
/-- an own method's answer -/
def ansB (f : Bool → Bool) (r : D) (m : Mem) : R D := match r with
  | .p (.bl b) => .ok (.p (.bl (f b))) m
  | _ => .no
def ansI (r : D) (m : Mem) : R D := match r with
  | .p (.int n) => if 0 ≤ n ∧ n < 2 ^ 63 then .ok (.p (.int n)) m else .no
  | _ => .no
def ansS (r : D) (m : Mem) : R D := match r with
  | .p (.str z) => .ok (.p (.str z)) m
  | _ => .no
/-- a comparison, an own one, too -/
def cmpO (cl : Nat → List D → Mem → R D) (gv : Gv) (o : COp) (a b : D) (m : Mem) : R D := match o with
  | .eq => (match clsS a m with
    | some c => (match gv.om c 3 with | some f => (if (kindS b m).isSome = true then (cl f [a, b] m).calm.bind (ansB id) else .no) | none => .no)
    | none => cmpS .eq a b m)
  | .ne => (match clsS a m with
    | some c => (match gv.om c 3 with | some f => (if (kindS b m).isSome = true then (cl f [a, b] m).calm.bind (ansB not) else .no) | none => .no)
    | none => cmpS .ne a b m)
  | .inn => (match clsS b m with
    | some c => (match gv.om c 2 with | some f => (cl f [b, a] m).calm.bind (ansB id) | none => .no)
    | none => cmpS .inn a b m)
  | .nin => (match clsS b m with
    | some c => (match gv.om c 2 with | some f => (cl f [b, a] m).calm.bind (ansB not) | none => .no)
    | none => cmpS .nin a b m)
  | o => cmpS o a b m
/-- a built-in function, an own method behind it, too -/
def bclO (cl : Nat → List D → Mem → R D) (gv : Gv) (f : BF) (l : List D) (m : Mem) : R D := match f, l with
  | .len, [a] => (match clsS a m with
    | some c => (match gv.om c 0 with | some f => (cl f [a] m).calm.bind ansI | none => .no)
    | none => bclS .len [a] m)
  | .repr, [a] => (match clsS a m with
    | some c => (match gv.om c 1 with | some f => (cl f [a] m).calm.bind ansS | none => .no)
    | none => bclS .repr [a] m)
  | f, l => bclS f l m
/-- the arguments in the parameters' order -/
def permL {α : Type} (pm : List Nat) (xs zs : List α) : List α := pm.filterMap fun i => (xs ++ zs)[i]?
section
variable (cl : Nat → List D → Mem → R D) (gv : Gv)
mutual
def den : RE → Sl → Mem → R D
  | .var i, δ, m => match δ[i]? with
    | some (some d) => .ok d m
    | _ => .no
  | .cst x, _, m => .ok (.p x) m
  | .glo n, _, m => .ok (.p (gv.c n)) m
  | .tup l, δ, m => (denL l δ m).bind (lnS l.plain mkT)
  | .lst mu l, δ, m => (denL l δ m).bind (lnS l.plain (mkL mu))
  | .bin o a b, δ, m => (den a δ m).bind fun x m => (den b δ m).bind fun y m => binS o x y m
  | .neg a, δ, m => (den a δ m).bind fun x m => match x with | .p (.int i) => .ok (.p (.int (-i))) m | _ => .no
  | .cmp o a b, δ, m => (den a δ m).bind fun x m => (den b δ m).bind fun y m => cmpO cl gv o x y m
  | .cmp2 o o' a b c, δ, m => (den a δ m).bind fun x m => (den b δ m).bind fun y m => (cmpS o x y m).bind fun k m => (asB k m).bind fun k m =>
      if k then (den c δ m).bind fun z m => cmpS o' y z m else .ok (.p (.bl false)) m
  | .and a b, δ, m => (den a δ m).bind fun x m => (asB x m).bind fun x m => if x then den b δ m else .ok (.p (.bl false)) m
  | .or a b, δ, m => (den a δ m).bind fun x m => (asB x m).bind fun x m => if x then .ok (.p (.bl true)) m else den b δ m
  | .not a, δ, m => (den a δ m).bind fun x m => (asB x m).bind fun x m => .ok (.p (.bl (!x))) m
  | .ite c a b, δ, m => (den c δ m).bind fun x m => (asB x m).bind fun x m => if x then den a δ m else den b δ m
  | .isi a _ l, δ, m => (den a δ m).bind fun x m => oB (isTys l x m) m
  | .ix a b, δ, m => (den a δ m).bind fun x m => (den b δ m).bind fun y m => ixS x y m
  | .sl a lo hi, δ, m => (den a δ m).bind fun x m => (denO lo δ m).bind fun i m => (denO hi δ m).bind fun j m => slS x i j m
  | .call f l, δ, m => (denL l δ m).bind (cl f)
  | .callK f l kl pm, δ, m => (denL l δ m).bind fun xs m => (denL kl δ m).bind fun zs m => cl f (permL pm xs zs) m
  | .bcl f l, δ, m => (denL l δ m).bind (bclO cl gv f)
  | .bmt f a l, δ, m => (den a δ m).bind fun x m => if bmPre f x m = true then (denL l δ m).bind (bmtS f x) else .no
  | .lc mu e t it c own, δ, m => (denI it δ m).bind fun its m =>
      (lcRun (fun x m => (oR (asgT t x m (wipeD δ own)) m).bind fun δ' m => (denC c δ' m).bind fun k m => if k then (den e δ' m).bind fun y m => .ok (some y) m else .ok none m) its its.l m).bind (mkL mu)
  | .lc2 mu e t it c t1 it1 c1 own own1, δ, m => (denI it δ m).bind fun its m =>
      (lc2Run (fun x m => (oR (asgT t x m (wipeD δ own)) m).bind fun δ' m => (denC c δ' m).bind fun k m => .ok (if k then some δ' else none) m) (fun δ1 m => denI it1 δ1 m)
        (fun δ1 x m => (oR (asgT t1 x m (wipeD δ1 own1)) m).bind fun δ' m => (denC c1 δ' m).bind fun k m => if k then (den e δ' m).bind fun y m => .ok (some y) m else .ok none m) its its.l m).bind (lnS false (mkL mu))
  | .frz a, δ, m => trimR m ((den a δ m).bind frzS)
  | .fld a f, δ, m => (den a δ m).bind fun x m => fldS gv f x m
  | .meth a n l, δ, m => (den a δ m).bind fun x m => match (clsS x m).bind fun c => gv.mt c n with
    | some f => (denL l δ m).bind fun xs m => cl f (x :: xs) m
    | none => .no
  | .make c l, δ, m => match gv.ini c with
    | some f => (denL l δ m).bind fun xs m => makeS cl c f xs m
    | none => .no
  | .ccon c n, _, m => match gv.cc c n with | some x => .ok (.p x) m | none => .no
  | .smeth c n l, δ, m => match gv.sm c n with
    | some (f, true) => (denL l δ m).bind fun xs m => cl f (.p (.cls c) :: xs) m
    | some (f, false) => (denL l δ m).bind (cl f)
    | none => .no
  | .smethK f c n kl pm, δ, m => match gv.sm c n with
    | some (f', true) => if f' = f then (denL kl δ m).bind fun zs m => cl f (permL pm [.p (.cls c)] zs) m else .no
    | _ => .no
  | .makeV i c l, δ, m => match δ[i]?, gv.ini c with
    | some (some (.p (.cls c'))), some f => if c' = c then (denL l δ m).bind fun xs m => makeS cl c f xs m else .no
    | _, _ => .no
  | .fmt a, δ, m => (den a δ m).bind fmtS
  | .fstr l, δ, m => denJ l Str.empty δ m
  | .prop a n, δ, m => (den a δ m).bind fun x m => match (clsS x m).bind fun c => gv.pr c n with
    | some f => (cl f [x] m).calm
    | none => .no
  | .rev a, δ, m => (den a δ m).bind revS
  | .dnew t, _, m => .ok (.ref m.length) (m.new (if t then .dcT [] else .dct []))
  | .disp l, δ, m => (denL l δ m).bind dispS
  | .dzip a b, δ, m => (den a δ m).bind fun x m => (den b δ m).bind fun y m => dzipS x y m
  | .dcm t kx vx tg it c own, δ, m => (denI it δ m).bind fun its m =>
      dcRun t (fun x m => (oR (asgT tg x m (wipeD δ own)) m).bind fun δ' m => (denC c δ' m).bind fun k m => if k then (den kx δ' m).bind fun y m => (den vx δ' m).bind fun z m => pairS y z m else .ok none m) its its.l [] m
  | .wall, _, _ => .no
  | .exn c l, δ, m => (denL l δ m).bind fun xs m => excS gv c xs m
  | .exnK c e, δ, m => (den e δ m).bind fun x m => excS gv c [x] m
  | .xfld a f, δ, m => (den a δ m).bind fun x m => xfS gv f x m
  | .xis a t, δ, m => (den a δ m).bind fun x m => xisS gv t x m
def denL : RL → Sl → Mem → R (List D)
  | .nil, _, m => .ok [] m
  | .cons e l, δ, m => (den e δ m).bind fun x m => (denL l δ m).bind fun xs m => .ok (x :: xs) m
  | .star e l, δ, m => (den e δ m).bind fun x m => (oR (seqD m x) m).bind fun ys m => (denL l δ m).bind fun xs m => .ok (ys ++ xs) m
def denJ : RL → Str → Sl → Mem → R D
  | .nil, acc, _, m => .ok (.p (.str acc)) m
  | .cons e l, acc, δ, m => (den e δ m).bind fun x m => match addS acc x with
    | some acc => denJ l acc δ m
    | none => .no
  | .star _ _, _, _, _ => .no
def denO : RO → Sl → Mem → R (Option Int)
  | .none, _, m => .ok none m
  | .some e, δ, m => (den e δ m).bind fun x m => match x with | .p (.int i) => .ok (some i) m | _ => .no
def denC : RO → Sl → Mem → R Bool
  | .none, _, m => .ok true m
  | .some e, δ, m => (den e δ m).bind asB
def denI : RI → Sl → Mem → R Its
  | .seq e, δ, m => (den e δ m).bind fun x m => oR (itSeq x m) m
  | .rng e, δ, m => (den e δ m).bind fun x m => oR (itRng x) m
  | .rng2 a b, δ, m => (den a δ m).bind fun x m => (den b δ m).bind fun y m => oR (itRng2 x y) m
  | .zip l, δ, m => (denL l δ m).bind fun xs m => oR (itZip xs m) m
  | .keys a, δ, m => (den a δ m).bind fun x m => oR (itKeys x) m
  | .enum a, δ, m => (den a δ m).bind fun x m => oR (itEnum x m) m
end

/-- how a statement ends -/
inductive Fl where | nx | rt (d : D) | br | ct
/-- .. with its slots -/
inductive S where | ok (f : Fl) (δ : Sl) (m : Mem) | ex (x : Ex) (δ : Sl) (m : Mem) | no
def R.toS {α : Type} (r : R α) (δ : Sl) (f : α → Mem → S) : S := match r with | .ok a m => f a m | .ex x m => .ex x δ m | .no => .no
open Classical in
def forRun (f : D → Sl → Mem → S) (t : Its) : List D → Sl → Mem → S
  | [], δ, m => if t.held m then .ok .nx δ m else .no
  | x :: xs, δ, m => if t.held m then (match f x δ m with
      | .ok .nx δ m => forRun f t xs δ m
      | .ok .ct δ m => forRun f t xs δ m
      | .ok .br δ m => .ok .nx δ m
      | r => r) else .no
def whlRun (c : Sl → Mem → R Bool) (b : Sl → Mem → S) : Nat → Sl → Mem → S
  | 0, _, _ => .no
  | n + 1, δ, m => (c δ m).toS δ fun k m => if k then (match b δ m with
      | .ok .nx δ m => whlRun c b n δ m
      | .ok .ct δ m => whlRun c b n δ m
      | .ok .br δ m => .ok .nx δ m
      | r => r) else .ok .nx δ m
def getS (a b : D) (m : Mem) : R D := match a, b with
  | .ref n, .p (.int i) => (match m.get n with
    | some (.lst l) => (match atI l i with | some d => .ok d m | none => .no)
    | _ => .no)
  | _, _ => .no
def augS (o : BOp) (x y : D) (m : Mem) : R D := match o, x, y with
  | .add, .p (.int i), .p (.int j) => .ok (.p (.int (i + j))) m
  | .sub, .p (.int i), .p (.int j) => .ok (.p (.int (i - j))) m
  | .mul, .p (.int i), .p (.int j) => if mulOk i j then .ok (.p (.int (i * j))) m else .no
  | _, _, _ => .no
mutual
def denS : RS → Sl → Mem → S
  | .set i e, δ, m => (den cl gv e δ m).toS δ fun d m => .ok .nx (δ.set i (some d)) m
  | .asg t e, δ, m => (den cl gv e δ m).toS δ fun d m => match asgT t d m δ with
    | some δ' => .ok .nx δ' m
    | none => .no
  | .par is l, δ, m => (denL cl gv l δ m).toS δ fun ds m => if ds.length = is.length then .ok .nx ((is.zip ds).foldl (fun δ p => δ.set p.1 (some p.2)) δ) m else .no
  | .iset a b e, δ, m => (den cl gv e δ m).toS δ fun v m => (den cl gv a δ m).toS δ fun x m => (den cl gv b δ m).toS δ fun y m => (isetS x y v m).toS δ fun _ m => .ok .nx δ m
  | .wall, _, _ => .no
  | .fset a f e, δ, m => (den cl gv e δ m).toS δ fun v m => (den cl gv a δ m).toS δ fun x m => (fsetS gv f x v m).toS δ fun _ m => .ok .nx δ m
  | .aug i o e, δ, m => match δ[i]? with
    | some (some x) => (den cl gv e δ m).toS δ fun y m => (augS o x y m).toS δ fun z m => .ok .nx (δ.set i (some z)) m
    | _ => .no
  | .iaug a b o e, δ, m => (den cl gv a δ m).toS δ fun u m => (den cl gv b δ m).toS δ fun i m => (getS u i m).toS δ fun x m => (den cl gv e δ m).toS δ fun y m => (augS o x y m).toS δ fun z m => (isetS u i z m).toS δ fun _ m => .ok .nx δ m
  | .ex e, δ, m => (trimU m (den cl gv e δ m)).toS δ fun _ m => .ok .nx δ m
  | .ret e, δ, m => (den cl gv e δ m).toS δ fun d m => .ok (.rt d) δ m
  | .ite c a b, δ, m => ((den cl gv c δ m).bind asB).toS δ fun k m => if k then denB a δ m else denB b δ m
  | .forr t it b, δ, m => (denI cl gv it δ m).toS δ fun its m => forRun (fun x δ m => match asgT t x m δ with
    | some δ' => denB b δ' m
    | none => .no) its its.l δ m
  | .whl n c b, δ, m => whlRun (fun δ m => (den cl gv c δ m).bind asB) (denB b) n δ m
  | .pas, δ, m => .ok .nx δ m
  | .brk, δ, m => .ok .br δ m
  | .cnt, δ, m => .ok .ct δ m
  | .raise c l, δ, m => (denL cl gv l δ m).toS δ fun xs m => match excF gv c xs with | some fs => .ex ⟨c, fs⟩ δ m | none => .no
def denB : RB → Sl → Mem → S
  | .nil, δ, m => .ok .nx δ m
  | .cons s b, δ, m => match denS s δ m with
    | .ok .nx δ m => denB b δ m
    | r => r
  | .lock i b, δ, m => match δ[i]? with
    | some (some d) => (match frzS d m with | .ok x m => denB b (δ.set i (some x)) m | _ => .no)
    | _ => .no
end
end
def argsD (f : FD) (l : List D) : Option (List D) := match f.st with
  | true => if f.np ≤ l.length + 1 ∧ l.length ≤ f.np + 10000 then (allP (l.drop (f.np - 1))).map fun ps => l.take (f.np - 1) ++ [.p (.tup ps)] else none
  | false => if l.length ≤ f.np ∧ f.np ≤ l.length + f.df.length then some (l ++ (f.df.drop (l.length + f.df.length - f.np)).map D.p) else none
def startD (n : Nat) (l : List D) : Sl := l.map some ++ List.replicate (n - l.length) none
def endS : S → R D
  | .ok (.rt d) _ m => .ok d m
  | .ok .nx _ m => .ok (.p .non) m
  | .ex x _ m => .ex x m
  | _ => .no
def runD (cl : Nat → List D → Mem → R D) (gv : Gv) (f : FD) (l : List D) (m : Mem) : R D := match argsD f l with
  | some l => trimR m (endS (denB cl gv f.body (startD f.ns l) m))
  | none => .no
/-- a program: its defs, its constants -/
structure Pg where
  fd : Nat → Option FD
  gv : Gv
def callAt (p : Pg) : Nat → Nat → List D → Mem → R D
  | 0, _, _, _ => .no
  | k + 1, f, l, m => match p.fd f with
    | some d => runD (callAt p k) p.gv d l m
    | none => .no
end Dn
end

/-! Dn, part D: operations by values. -/
namespace Dn
open PySem PySem.Spec PyProof.Rows L2

abbrev PostD (g : Gn) := Post g (RD g)
section
variable {g : Gn} {ρ : Rho} {F H : Hp} {m : Mem} {Q : VK} {E : XK}
theorem Post.val {α β : Type} {rel : Rho → Hp → Nat → α → β → Prop} {d : α} {v : β} {Q : β → Hp → Prop} (h : Post g rel ρ F m H (.ok d m) Q E) (M : MRel g ρ F m H) (r : rel ρ F m.length d v) : Q v H := h v H ρ F Ext.refl M r
theorem MRel.free (M : MRel g ρ F m H) {a : Addr} (ha : H a = none) : F a = none := by
  cases e : F a with
  | none => rfl
  | some o => rcases M.sub a o e with h | ⟨_, _, h⟩ <;> (rw [ha] at h; cases h)
theorem subNew {a : Addr} {ho : HO} (h : F a = none) : Sub F (upd F a ho) := Sub.of fun b o e => by rw [upd_ne (ne_of_none e h)]; exact e
theorem Post.newLst {ps : List P} {vs : List V} {a : Addr} (hl : ps.length ≤ sizeLine) (h : PostD g ρ F m H (.ok (.p (.lst ps)) m) Q E) (M : MRel g ρ F m H) (r : RPs g F ps vs) (ha : H a = none) : Q (.ref a) (upd H a (.lst vs)) := by
  obtain ⟨x, M'⟩ := step_pure (ho := .lst vs) M ha
  exact h _ _ _ _ x M' (RP.lst hl upd_same (RPs.up (subNew (M.free ha)) r))
theorem Post.newTup {ps : List P} {vs : List V} {a : Addr} (hl : ps.length ≤ sizeLine) (h : PostD g ρ F m H (.ok (.p (.tup ps)) m) Q E) (M : MRel g ρ F m H) (r : RPs g F ps vs) (ha : H a = none) : Q (.ref a) (upd H a (.tup vs)) := by
  obtain ⟨x, M'⟩ := step_pure (ho := .tup vs) M ha
  exact h _ _ _ _ x M' (RP.tup hl upd_same (RPs.up (subNew (M.free ha)) r))
theorem allP_eq : ∀ {l : List D} {ps : List P}, allP l = some ps → l = ps.map D.p
  | [], ps, e => by cases e; rfl
  | .p x :: l, ps, e => by
    obtain ⟨qs, e1, e2⟩ := Option.map_eq_some_iff.mp (show (allP l).map (x :: ·) = some ps from e)
    subst e2
    rw [allP_eq e1]
    rfl
  | .ref _ :: _, _, e => by cases e
theorem allP_map (ps : List P) : allP (ps.map D.p) = some ps := by
  induction ps with
  | nil => rfl
  | cons x l ih =>
    show (allP (l.map D.p)).map (x :: ·) = _
    rw [ih]
    rfl
theorem Post.newL {l : List D} {vs : List V} {a : Addr} (hl : l.length ≤ sizeLine) (h : PostD g ρ F m H (.ok (.ref m.length) (m.new (.lst l))) Q E) (M : MRel g ρ F m H) (r : RDs g ρ F m.length l vs) (ha : H a = none) : Q (.ref a) (upd H a (.lst vs)) := by
  obtain ⟨x, M', r'⟩ := step_new (o := .lst l) (ho := .lst vs) M ha ⟨hl, r⟩
  exact h _ _ _ _ x M' r'
theorem mkL_post {mu : Bool} {l : List D} {vs : List V} (hl : l.length ≤ sizeLine) (h : PostD g ρ F m H (mkL mu l m) Q E) (M : MRel g ρ F m H) (r : RDs g ρ F m.length l vs) : vs.length ≤ sizeLine ∧ ∀ a, H a = none → Q (.ref a) (upd H a (.lst vs)) := by
  unfold mkL at h
  refine ⟨by rw [← r.length]; exact hl, fun a ha => ?_⟩
  split at h
  · rename_i ps e
    have hp : ps.length ≤ sizeLine := by rw [allP_eq e, List.length_map] at hl; exact hl
    rw [allP_eq e] at r
    exact h.newLst hp M (RPs.of r) ha
  · exact h.newL hl M r ha
theorem mkT_post {l : List D} {vs : List V} (hl : l.length ≤ sizeLine) (h : PostD g ρ F m H (mkT l m) Q E) (M : MRel g ρ F m H) (r : RDs g ρ F m.length l vs) : vs.length ≤ sizeLine ∧ ∀ a, H a = none → Q (.ref a) (upd H a (.tup vs)) := by
  unfold mkT at h
  refine ⟨by rw [← r.length]; exact hl, fun a ha => ?_⟩
  split at h
  · rename_i ps e
    have hp : ps.length ≤ sizeLine := by rw [allP_eq e, List.length_map] at hl; exact hl
    rw [allP_eq e] at r
    exact h.newTup hp M (RPs.of r) ha
  · exact h.elim
/-- a length that was looked at -/
theorem lnS_post {α β : Type} {rel : Rho → Hp → Nat → α → β → Prop} {Q : β → Hp → Prop} {pl : Bool} {f : List D → Mem → R α} {l : List D} (hp : pl = true → l.length ≤ sizeLine) (h : Post g rel ρ F m H (lnS pl f l m) Q E) : l.length ≤ sizeLine ∧ Post g rel ρ F m H (f l m) Q E := by
  unfold lnS at h
  split at h
  · exact ⟨hp rfl, h⟩
  · split at h
    · rename_i hl; exact ⟨hl, h⟩
    · exact h.elim
theorem get_some {n : Nat} {o : MO} (h : m.get n = some o) : m[n]? = some (some o) := by
  unfold Mem.get at h
  cases e : m[n]? with
  | none => rw [e] at h; cases h
  | some x => rw [e] at h; cases x with
    | none => cases h
    | some y => cases h; rfl
/-- an object of the store, read -/
theorem MRel.look (M : MRel g ρ F m H) {n : Nat} {o : MO} {v : V} (e : m.get n = some o) (r : RD g ρ F m.length (.ref n) v) : ∃ ho, v = .ref (ρ n) ∧ H (ρ n) = some ho ∧ RMO g ρ F m.length o ho := by
  obtain ⟨_, ho, h1, h2⟩ := M.mem n o (get_some e)
  exact ⟨ho, r.2, h1, h2⟩
theorem rmo_lst {l : List D} {ho : HO} {k : Nat} (h : RMO g ρ F k (.lst l) ho) : ∃ vs, ho = .lst vs ∧ RDs g ρ F k l vs := by
  cases ho <;> first | exact ⟨_, rfl, h.2⟩ | exact (show False from h).elim
theorem rmo_dct {l : List (P × D)} {ho : HO} {k : Nat} (h : RMO g ρ F k (.dct l) ho) : ∃ vs, ho = .dK vs ∧ RDk g ρ F k l vs := by
  cases ho <;> first | exact ⟨_, rfl, h.2⟩ | exact (show False from h).elim
theorem rmo_line {l : List D} {ho : HO} {k : Nat} (h : RMO g ρ F k (.lst l) ho) : l.length ≤ sizeLine := by
  cases ho <;> first | exact h.1 | exact (show False from h).elim
theorem MRel.line (M : MRel g ρ F m H) {n : Nat} {l : List D} (e : m[n]? = some (some (.lst l))) : l.length ≤ sizeLine := by
  obtain ⟨_, ho, _, h⟩ := M.mem n _ e
  exact rmo_line h
theorem rmo_dcT {l : List (P × D)} {ho : HO} {k : Nat} (h : RMO g ρ F k (.dcT l) ho) : ∃ vs, ho = .dT vs ∧ RDt g ρ F k l vs := by
  cases ho <;> first | exact ⟨_, rfl, h.2⟩ | exact (show False from h).elim
theorem rmo_ins {c : Nat} {l : List (Nat × D)} {ho : HO} {k : Nat} (h : RMO g ρ F k (.ins c l) ho) : ∃ dx fs, ho = .ins (g.cA c) dx fs ∧ g.cs c = true ∧ RDf g ρ F k l fs := by
  cases ho with
  | ins C dx fs =>
    have h2 : (l.length ≤ 100 ∧ C = g.cA c ∧ g.cs c = true) ∧ RDf g ρ F k l fs := h
    exact ⟨dx, fs, by rw [h2.1.2.1], h2.1.2.2, h2.2⟩
  | _ => exact (show False from h).elim
theorem rmo_scr {l : List Int} {ho : HO} {k : Nat} (h : RMO g ρ F k (.scr l) ho) : ∃ o, ho = .frz o (.lst (l.map V.int)) := by
  cases ho with
  | frz o u => cases u <;> first | exact ⟨o, by rw [show _ = _ from h]⟩ | exact (show False from h).elim
  | _ => exact (show False from h).elim
theorem rdP_ok (M : MRel g ρ F m H) {d : D} {x : P} {v : V} (e : rdP m d = some x) (r : RD g ρ F m.length d v) : RP g H x v := by
  cases d with
  | p y => cases e; exact RP.up M.sub r
  | ref n =>
    have e' : (match m.get n with | some (.lst l) => (allP l).map P.lst | _ => none) = some x := e
    cases q : m.get n with
    | none => rw [q] at e'; cases e'
    | some o =>
      rw [q] at e'
      cases o with
      | lst l =>
        obtain ⟨ps, e1, e2⟩ := Option.map_eq_some_iff.mp (show (allP l).map P.lst = some x from e')
        obtain ⟨ho, rfl, h1, h2⟩ := M.look q r
        obtain ⟨vs, rfl, h3⟩ := rmo_lst h2
        rw [← e2]
        rw [allP_eq e1] at h3
        have hz := M.line (get_some q)
        rw [allP_eq e1, List.length_map] at hz
        exact .lst hz h1 (RPs.up M.sub (RPs.of h3))
      | _ => cases e'
/-- a sequence's items -/
theorem seqD_ok (M : MRel g ρ F m H) {d : D} {l : List D} {v : V} (e : seqD m d = some l) (r : RD g ρ F m.length d v) :
    ∃ a vs, l.length ≤ sizeLine ∧ v = .ref a ∧ RDs g ρ F m.length l vs ∧ ((H a = some (.lst vs) ∧ ((∃ ps, d = .p (.lst ps)) ∨ ∃ n, d = .ref n ∧ m.get n = some (.lst l))) ∨ (SqT g.K H a vs ∧ ∃ ps, d = .p (.tup ps) ∨ d = .p (.ktp ps))) := by
  cases d with
  | p y => cases y with
    | lst l' =>
      cases e
      cases r with
      | lst hz h t => exact ⟨_, _, by rw [List.length_map]; exact hz, rfl, RPs.ds t, .inl ⟨M.sub.lst h, .inl ⟨_, rfl⟩⟩⟩
    | tup l' =>
      cases e
      cases r with
      | tup hz h t => exact ⟨_, _, by rw [List.length_map]; exact hz, rfl, RPs.ds t, .inr ⟨SqT.of (M.sub.tup h), _, .inl rfl⟩⟩
    | ktp l' =>
      cases e
      cases r with
      | ktp hz h t => exact ⟨_, _, by rw [List.length_map]; exact hz, rfl, RPs.ds t, .inr ⟨h H, _, .inr rfl⟩⟩
    | _ => cases e
  | ref n =>
    have e' : (match m.get n with | some (.lst l) => some l | _ => none) = some l := e
    cases q : m.get n with
    | none => rw [q] at e'; cases e'
    | some o =>
      rw [q] at e'
      cases o with
      | lst l' =>
        cases e'
        obtain ⟨ho, rfl, h1, h2⟩ := M.look q r
        obtain ⟨vs, rfl, h3⟩ := rmo_lst h2
        exact ⟨_, _, M.line (get_some q), rfl, h3, .inl ⟨h1, .inr ⟨n, rfl, q⟩⟩⟩
      | _ => cases e'
mutual
theorem RP.dp {x : P} {v : V} : x.dat = true → RP g H x v → Dp g.K H v x.py
  | _, .non => .non
  | _, .bl b => .bl b
  | _, .int i => .int i
  | _, .str s _ => .str s
  | e, .tup _ h t => .tup (SqT.of h) (RPs.dp e t)
  | e, .lst _ h t => .lst (SqL.of h) (RPs.dp e t)
  | e, .dK _ _ _ => absurd e Bool.false_ne_true
  | e, .dT _ _ _ => absurd e Bool.false_ne_true
  | e, .ins _ _ _ => absurd e Bool.false_ne_true
  | e, .ktp _ _ _ => absurd e Bool.false_ne_true
  | e, .cls _ => absurd e Bool.false_ne_true
  | e, .scr _ _ => absurd e Bool.false_ne_true
theorem RPs.dp {l : List P} {vs : List V} : datL l = true → RPs g H l vs → DpAll g.K H vs (pyL l)
  | _, .nil => .nil
  | e, .cons h t => .cons (RP.dp (Bool.and_eq_true_iff.mp e).1 h) (RPs.dp (Bool.and_eq_true_iff.mp e).2 t)
end
theorem pyL_map (l : List P) : pyL l = l.map P.py := by
  induction l with
  | nil => rfl
  | cons x l ih => show x.py :: pyL l = _; rw [ih]; rfl
theorem strsP_eq : ∀ {l : List P} {ss : List Str}, strsP l = some ss → l = ss.map P.str
  | [], ss, e => by cases e; rfl
  | .str s :: l, ss, e => by
    obtain ⟨qs, e1, e2⟩ := Option.map_eq_some_iff.mp (show (strsP l).map (s :: ·) = some ss from e)
    subst e2; rw [strsP_eq e1]; rfl
  | .non :: _, _, e => by cases e
  | .bl _ :: _, _, e => by cases e
  | .int _ :: _, _, e => by cases e
  | .tup _ :: _, _, e => by cases e
  | .lst _ :: _, _, e => by cases e
  | .dct _ _ :: _, _, e => by cases e
  | .ins _ _ :: _, _, e => by cases e
  | .ktp _ :: _, _, e => by cases e
  | .scr _ :: _, _, e => by cases e
  | .cls _ :: _, _, e => by cases e
theorem intsP_eq : ∀ {l : List P} {ss : List Int}, intsP l = some ss → l = ss.map P.int
  | [], ss, e => by cases e; rfl
  | .int s :: l, ss, e => by
    obtain ⟨qs, e1, e2⟩ := Option.map_eq_some_iff.mp (show (intsP l).map (s :: ·) = some ss from e)
    subst e2; rw [intsP_eq e1]; rfl
  | .non :: _, _, e => by cases e
  | .bl _ :: _, _, e => by cases e
  | .str _ :: _, _, e => by cases e
  | .tup _ :: _, _, e => by cases e
  | .lst _ :: _, _, e => by cases e
  | .dct _ _ :: _, _, e => by cases e
  | .ins _ _ :: _, _, e => by cases e
  | .ktp _ :: _, _, e => by cases e
  | .scr _ :: _, _, e => by cases e
  | .cls _ :: _, _, e => by cases e
theorem blsP_eq : ∀ {l : List P} {ss : List Bool}, blsP l = some ss → l = ss.map P.bl
  | [], ss, e => by cases e; rfl
  | .bl s :: l, ss, e => by
    obtain ⟨qs, e1, e2⟩ := Option.map_eq_some_iff.mp (show (blsP l).map (s :: ·) = some ss from e)
    subst e2; rw [blsP_eq e1]; rfl
  | .non :: _, _, e => by cases e
  | .int _ :: _, _, e => by cases e
  | .str _ :: _, _, e => by cases e
  | .tup _ :: _, _, e => by cases e
  | .lst _ :: _, _, e => by cases e
  | .dct _ _ :: _, _, e => by cases e
  | .ins _ _ :: _, _, e => by cases e
  | .ktp _ :: _, _, e => by cases e
  | .scr _ :: _, _, e => by cases e
  | .cls _ :: _, _, e => by cases e
theorem RPs.strs : ∀ {ss : List Str} {vs : List V}, RPs g H (ss.map P.str) vs → vs = ss.map V.str
  | [], _, h => by cases h; rfl
  | _ :: _, _, h => by cases h with | cons h t => cases h; rw [RPs.strs t]; rfl
theorem RPs.ints : ∀ {ss : List Int} {vs : List V}, RPs g H (ss.map P.int) vs → vs = ss.map V.int
  | [], _, h => by cases h; rfl
  | _ :: _, _, h => by cases h with | cons h t => cases h; rw [RPs.ints t]; rfl
theorem RPs.bls : ∀ {ss : List Bool} {vs : List V}, RPs g H (ss.map P.bl) vs → vs = ss.map V.bl
  | [], _, h => by cases h; rfl
  | _ :: _, _, h => by cases h with | cons h t => cases h; rw [RPs.bls t]; rfl
theorem RPs.ofInts (ss : List Int) : RPs g H (ss.map P.int) (ss.map V.int) := by
  induction ss with
  | nil => exact .nil
  | cons i l ih => exact .cons (.int i) ih
theorem RPs.take {l : List P} {vs : List V} (n : Nat) (h : RPs g H l vs) : RPs g H (l.take n) (vs.take n) := by
  induction n generalizing l vs with
  | zero => exact .nil
  | succ n ih => cases h with
    | nil => exact .nil
    | cons h t => exact .cons h (ih t)
theorem RPs.drop {l : List P} {vs : List V} (n : Nat) (h : RPs g H l vs) : RPs g H (l.drop n) (vs.drop n) := by
  induction n generalizing l vs with
  | zero => exact h
  | succ n ih => cases h with
    | nil => exact .nil
    | cons h t => exact ih t
theorem RPs.append {l r : List P} {vs us : List V} (h : RPs g H l vs) (k : RPs g H r us) : RPs g H (l ++ r) (vs ++ us) := by
  induction l generalizing vs with
  | nil => cases h; exact k
  | cons x l ih => cases h with | cons h t => exact .cons h (ih t)
theorem RPs.rev : ∀ {l : List P} {vs : List V}, RPs g H l vs → RPs g H l.reverse vs.reverse
  | _, _, .nil => .nil
  | _, _, .cons h t => by
    rw [List.reverse_cons, List.reverse_cons]
    exact RPs.append (RPs.rev t) (.cons h .nil)
theorem RPs.rep {l : List P} {vs : List V} (h : RPs g H l vs) (n : Nat) : RPs g H (List.replicate n l).flatten (List.replicate n vs).flatten := by
  induction n with
  | zero => exact .nil
  | succ n ih =>
    rw [List.replicate_succ, List.replicate_succ, List.flatten_cons, List.flatten_cons]
    exact RPs.append h ih
theorem RPs.repLen {α : Type} {l : List α} (n : Nat) : (List.replicate n l).flatten.length = l.length * n := by
  induction n with
  | zero => simp
  | succ n ih => rw [List.replicate_succ, List.flatten_cons, List.length_append, ih, Nat.mul_succ, Nat.add_comm]
theorem RPs.nilIff {l : List P} {vs : List V} (h : RPs g H l vs) : l = [] ↔ vs = [] := by cases h <;> simp
theorem flat_ok {x : P} {v : V} (h : RP g H x v) (f : flatP x = true) : flatV v = true := by cases h <;> first | rfl | exact absurd f Bool.false_ne_true
theorem flats_ok : ∀ {l : List P} {vs : List V}, RPs g H l vs → l.all flatP = true → vs.all flatV = true
  | _, _, .nil, _ => rfl
  | _, _, .cons h t, f => by
    rw [List.all_cons, Bool.and_eq_true] at f
    rw [List.all_cons, flat_ok h f.1, flats_ok t f.2]; rfl
theorem eqv_flat {x y : P} {v u : V} (h : RP g H x v) (k : RP g H y u) (f : flatP x = true) (f' : flatP y = true) : eqV v u = PyData.eqv x.py y.py := by
  cases h <;> cases k <;> first | rfl | exact absurd f Bool.false_ne_true | exact absurd f' Bool.false_ne_true
theorem inV_ok {x : P} {v : V} (h : RP g H x v) (f : flatP x = true) : ∀ {l : List P} {vs : List V}, RPs g H l vs → l.all flatP = true → inV v vs = l.any fun z => PyData.eqv z.py x.py
  | _, _, .nil, _ => rfl
  | _, _, .cons k t, f' => by
    rw [List.all_cons, Bool.and_eq_true] at f'
    have ih := inV_ok h f t f'.2
    unfold inV at ih ⊢
    rw [List.any_cons, List.any_cons, eqv_flat k h f'.1 f, ih]
end

/-- readings by values -/
def rd2 (g : Gn) (sem : D → D → Mem → R D) : R2 := fun x y H Q => ∃ d e m ρ F E, MRel g ρ F m H ∧ RD g ρ F m.length d x ∧ RD g ρ F m.length e y ∧ PostD g ρ F m H (sem d e m) Q E
def rdN (g : Gn) (sem : List D → Mem → R D) : List V → Hp → VK → Prop := fun xs H Q => ∃ ds m ρ F E, MRel g ρ F m H ∧ RDs g ρ F m.length ds xs ∧ PostD g ρ F m H (sem ds m) Q E
def rdM (g : Gn) (sem : D → List D → Mem → R D) : V → List V → Hp → VK → Prop := fun x xs H Q => ∃ d ds m ρ F E, MRel g ρ F m H ∧ RD g ρ F m.length d x ∧ RDs g ρ F m.length ds xs ∧ PostD g ρ F m H (sem d ds m) Q E

def bO : BOp → Operator
  | .add => .Add | .sub => .Sub | .mul => .Mult | .mod => .Mod | .fdiv => .FloorDiv | .pow => .Pow
def cO : COp → CmpOp
  | .eq => .Eq | .ne => .NotEq | .lt => .Lt | .le => .LtE | .gt => .Gt | .ge => .GtE | .isn => .Is | .notn => .IsNot | .inn => .In | .nin => .NotIn

section
variable {X : Cx} {g : Gn}
theorem bin_ok (hK : X.K = g.K) (o : BOp) : OpR X (binaryOp (bO o)) (rd2 g (binS o)) := by
  rintro pins s σ H x y v u Q I rx ry ⟨d, e, m, ρ, F, E, M, hd, he, h⟩
  unfold binS at h
  split at h
  · cases hd; cases he
    exact op_add pins s σ H _ _ v u Q I rx ry ⟨_, _, rfl, rfl, h.val M (RP.int _)⟩
  · cases hd; cases he
    exact op_sub pins s σ H _ _ v u Q I rx ry ⟨_, _, rfl, rfl, h.val M (RP.int _)⟩
  · cases hd; cases he
    split at h
    · rename_i c
      refine op_mul pins s σ H _ _ v u Q I rx ry ⟨_, _, rfl, rfl, ?_, h.val M (RP.int _)⟩
      unfold mulOk at c
      simpa [CMul] using c
    · exact h.elim
  · cases hd; cases he
    split at h
    · rename_i c
      exact op_mod pins s σ H _ _ v u Q I rx ry ⟨_, _, rfl, rfl, c, h.val M (RP.int _)⟩
    · exact h.elim
  · cases hd; cases he
    split at h
    · rename_i c
      exact op_fdiv pins s σ H _ _ v u Q I rx ry ⟨_, _, rfl, rfl, c, h.val M (RP.int _)⟩
    · exact h.elim
  · cases hd; cases he
    split at h
    · rename_i c
      exact op_pow pins s σ H _ _ v u Q I rx ry ⟨_, _, rfl, rfl, c, h.val M (RP.int _)⟩
    · exact h.elim
  · cases hd; cases he
    split at h
    · rename_i c
      exact op_add_str pins s σ H _ _ v u Q I rx ry ⟨_, _, rfl, rfl, c, h.val M (RP.str _ (by rw [Str.length_append]; exact c))⟩
    · exact h.elim
  · cases hd with
    | tup z1 h1 t1 => cases he with
      | tup z2 h2 t2 =>
        split at h
        · rename_i c
          refine op_catA pins s σ H _ _ v u Q I rx ry ⟨_, _, _, _, rfl, rfl, SqT.of (M.sub.tup h1), SqT.of (M.sub.tup h2), by rw [← t1.length, ← t2.length]; exact c, fun z => ?_, fun _ z => ?_, fun _ _ p hp => h.newTup (by rw [List.length_append]; exact c) M (t1.append t2) hp⟩
          · have z' := t1.nilIff.mpr z
            subst z'
            rw [List.nil_append] at h
            exact h.val M (RP.tup z2 h2 t2)
          · have z' := t2.nilIff.mpr z
            subst z'
            rw [List.append_nil] at h
            exact h.val M (RP.tup z1 h1 t1)
        · exact h.elim
  · cases hd with
    | lst z1 h1 t1 =>
      cases he
      split at h
      · rename_i c
        exact op_rep pins s σ H _ _ v u Q I rx ry ⟨_, _, _, rfl, rfl, M.sub.lst h1, c.1, c.2.1, by rw [← t1.length]; exact c.2.2, fun p hp => h.newLst (by rw [RPs.repLen]; exact c.2.2) M (t1.rep _) hp⟩
      · exact h.elim
  · unfold catS at h
    split at h
    · exact h.elim
    · rename_i nt
      split at h
      · rename_i l1 l2 e1 e2
        split at h
        · rename_i c
          obtain ⟨a, vs, _, rfl, r1, q1⟩ := seqD_ok M e1 hd
          obtain ⟨b, us, _, rfl, r2, q2⟩ := seqD_ok M e2 he
          rcases q1 with ⟨k1, _⟩ | ⟨_, ps, z⟩
          · rcases q2 with ⟨k2, _⟩ | ⟨_, ps, z⟩
            · obtain ⟨z1, z2⟩ := mkL_post (by rw [List.length_append]; exact c) h M (r1.append r2)
              exact op_cat pins s σ H _ _ v u Q I rx ry ⟨_, _, _, _, rfl, rfl, k1, k2, by rw [List.length_append] at z1; exact z1, fun p hp => z2 p hp⟩
            · rcases z with z | z <;> (subst z; exact absurd (by simp [isTupD]) nt)
          · rcases z with z | z <;> (subst z; exact absurd (by simp [isTupD]) nt)
        · exact h.elim
      · exact h.elim
  · exact h.elim
end
end Dn

/-! Dn, part E: comparisons, subscripts, calls of built-ins, by values. -/
namespace Dn
open PySem PySem.Spec PyProof.Rows L2
section
variable {X : Cx} {g : Gn} {ρ : Rho} {F H : Hp} {m : Mem} {Q : VK} {E : XK}
theorem isN_ok {k : Nat} {d : D} {v : V} (r : RD g ρ F k d v) : isN d = decide (v = .non) := by
  cases d with
  | p x => cases r <;> simp [isN]
  | ref n => obtain ⟨_, rfl⟩ := r; simp [isN]
theorem isN_v {k : Nat} {d : D} {v : V} (r : RD g ρ F k d v) (h : isN d = true) : v = .non := by
  rw [isN_ok r] at h
  exact of_decide_eq_true h
theorem shp_dat {x : P} (h : x.shp = true) : x.dat = true := (Bool.and_eq_true_iff.mp h).1
theorem shp_sh {x : P} (h : x.shp = true) : SeqAt.shaped x.py = true := (Bool.and_eq_true_iff.mp h).2
theorem key_v {x : P} {κ : Key} {v : V} (e : keyP x = some κ) (r : RP g H x v) : v = kV κ := by
  cases r <;> first | (cases e; rfl) | cases e
theorem keys_v : ∀ {l : List P} {κ : List Key} {vs : List V}, keysP l = some κ → RPs g H l vs → vs = κ.map kV
  | [], κ, _, e, .nil => by cases e; rfl
  | x :: l, κ, _, e, .cons r t => by
    unfold keysP at e
    cases e1 : keyP x with
    | none => rw [e1] at e; cases e
    | some k =>
      cases e2 : keysP l with
      | none => rw [e1, e2] at e; cases e
      | some ks =>
        rw [e1, e2] at e
        cases e
        rw [key_v e1 r, keys_v e2 t]
        rfl
theorem keyT_v {x : P} {κ : List Key} {v : V} (e : keyT x = some κ) (r : RP g H x v) : ∃ b, v = .ref b ∧ H b = some (.tup (κ.map kV)) := by
  cases x with
  | tup l => cases r with
    | tup _ h t => exact ⟨_, rfl, by rw [h, keys_v e t]⟩
  | _ => cases e
def OptR (g : Gn) (H : Hp) (o : Option P) (w : Option V) : Prop := match o with
  | some x => ∃ z, w = some z ∧ RP g H x z
  | none => w = none
theorem find_k {κ : Key} : ∀ {l : List (P × P)} {kvs : List (Key × V)}, RPk g H l kvs → OptR g H ((l.find? fun kv => decide (keyP kv.1 = some κ)).map (·.2)) (valV kvs κ)
  | _, _, .nil => rfl
  | _, _, @RPk.cons _ _ k x κ' v l vs e _ r t => by
    rw [List.find?_cons]
    have hv : valV ((κ', v) :: vs) κ = if κ' = κ then some v else valV vs κ := by
      unfold valV
      rw [List.find?_cons]
      by_cases h : κ' = κ
      · simp [h]
      · simp [h]
    by_cases h : κ' = κ
    · subst h
      simp only [e, decide_true]
      exact ⟨v, by rw [hv, if_pos rfl], r⟩
    · have : decide (keyP k = some κ) = false := by rw [e]; exact decide_eq_false (fun z => h (Option.some.inj z))
      simp only [this]
      rw [hv, if_neg h]
      exact find_k t
theorem find_t {κ : List Key} : ∀ {l : List (P × P)} {kvs : List (List Key × V)}, RPt g H l kvs → OptR g H ((l.find? fun kv => decide (keyT kv.1 = some κ)).map (·.2)) (valV kvs κ)
  | _, _, .nil => rfl
  | _, _, @RPt.cons _ _ k x κ' v l vs e _ r t => by
    rw [List.find?_cons]
    have hv : valV ((κ', v) :: vs) κ = if κ' = κ then some v else valV vs κ := by
      unfold valV
      rw [List.find?_cons]
      by_cases h : κ' = κ
      · simp [h]
      · simp [h]
    by_cases h : κ' = κ
    · subst h
      simp only [e, decide_true]
      exact ⟨v, by rw [hv, if_pos rfl], r⟩
    · have : decide (keyT k = some κ) = false := by rw [e]; exact decide_eq_false (fun z => h (Option.some.inj z))
      simp only [this]
      rw [hv, if_neg h]
      exact find_t t
def OptD (g : Gn) (ρ : Rho) (F : Hp) (k : Nat) (o : Option D) (w : Option V) : Prop := match o with
  | some d => ∃ v, w = some v ∧ RD g ρ F k d v
  | none => w = none
theorem find_dk {κ : Key} {n : Nat} : ∀ {l : List (P × D)} {kvs : List (Key × V)}, RDk g ρ F n l kvs → OptD g ρ F n ((l.find? fun kv => decide (keyP kv.1 = some κ)).map (·.2)) (valV kvs κ)
  | [], [], _ => rfl
  | (k, x) :: l, (κ', v) :: vs, h => by
    obtain ⟨⟨⟨e, _⟩, r⟩, t⟩ := h
    dsimp only at e r
    rw [List.find?_cons]
    by_cases h : κ' = κ
    · subst h
      simp only [e, decide_true]
      exact ⟨v, valV_pos (p := (κ', v)) rfl, r⟩
    · have : decide (keyP k = some κ) = false := by rw [e]; exact decide_eq_false (fun z => h (Option.some.inj z))
      simp only [this]
      rw [valV_neg (p := (κ', v)) h]
      exact find_dk t
  | [], _ :: _, h => h.elim
  | _ :: _, [], h => h.elim
theorem find_dt {κ : List Key} {n : Nat} : ∀ {l : List (P × D)} {kvs : List (List Key × V)}, RDt g ρ F n l kvs → OptD g ρ F n ((l.find? fun kv => decide (keyT kv.1 = some κ)).map (·.2)) (valV kvs κ)
  | [], [], _ => rfl
  | (k, x) :: l, (κ', v) :: vs, h => by
    obtain ⟨⟨⟨e, _⟩, r⟩, t⟩ := h
    dsimp only at e r
    rw [List.find?_cons]
    by_cases h : κ' = κ
    · subst h
      simp only [e, decide_true]
      exact ⟨v, valV_pos (p := (κ', v)) rfl, r⟩
    · have : decide (keyT k = some κ) = false := by rw [e]; exact decide_eq_false (fun z => h (Option.some.inj z))
      simp only [this]
      rw [valV_neg (p := (κ', v)) h]
      exact find_dt t
  | [], _ :: _, h => h.elim
  | _ :: _, [], h => h.elim
/-- an item of a dict of the store -/
theorem dctR_ok {d : D} {k : P} {v u : V} (M : MRel g ρ F m H) (rd : RD g ρ F m.length d v) (rk : RP g H k u) (h : PostD g ρ F m H (dctR d k m) Q E) : ∃ a z, v = .ref a ∧ DGet H a u (some z) ∧ Q z H := by
  unfold dctR at h
  split at h
  · rename_i n
    split at h
    · rename_i l el
      split at h
      · rename_i d' ed
        obtain ⟨ho, rfl, h1, h2⟩ := M.look el rd
        cases ho with
        | dK vs =>
          obtain ⟨_, h3⟩ := (show l.length ≤ sizeLine ∧ RDk g ρ F m.length l vs from h2)
          unfold dgetD at ed
          cases ek : keyP k with
          | none => rw [ek] at ed; cases ed
          | some κ =>
            rw [ek] at ed
            have f := find_dk (κ := κ) h3
            rw [Option.some.inj ed] at f
            obtain ⟨z, hz, rz⟩ := f
            exact ⟨_, z, rfl, .inl ⟨_, κ, .inl h1, key_v ek rk, hz.symm⟩, h.val M rz⟩
        | _ => exact h2.elim
      · exact h.elim
    · rename_i l el
      split at h
      · rename_i d' ed
        obtain ⟨ho, rfl, h1, h2⟩ := M.look el rd
        cases ho with
        | dT vs =>
          obtain ⟨_, h3⟩ := (show l.length ≤ sizeLine ∧ RDt g ρ F m.length l vs from h2)
          unfold dgetD at ed
          cases ek : keyT k with
          | none => rw [ek] at ed; cases ed
          | some κ =>
            rw [ek] at ed
            have f := find_dt (κ := κ) h3
            rw [Option.some.inj ed] at f
            obtain ⟨z, hz, rz⟩ := f
            obtain ⟨b, rfl, hb⟩ := keyT_v ek rk
            exact ⟨_, z, rfl, .inr ⟨_, κ, b, .inl h1, rfl, hb, hz.symm⟩, h.val M rz⟩
        | _ => exact h2.elim
      · exact h.elim
    · exact h.elim
  · exact h.elim
theorem any_dk {κ : Key} {n : Nat} : ∀ {l : List (P × D)} {kvs : List (Key × V)}, RDk g ρ F n l kvs → (l.any fun kv => decide (keyP kv.1 = some κ)) = kvs.any fun kv => decide (kv.1 = κ)
  | [], [], _ => rfl
  | (k, x) :: l, (κ', v) :: vs, h => by
    obtain ⟨⟨⟨e, _⟩, r⟩, t⟩ := h
    dsimp only at e
    rw [List.any_cons, List.any_cons, any_dk t, e]
    congr 1
    exact decide_eq_decide.mpr Option.some_inj
  | [], _ :: _, h => h.elim
  | _ :: _, [], h => h.elim
theorem map_dk {κ : Key} {n : Nat} {y : D} {w : V} (ry : RD g ρ F n y w) : ∀ {l : List (P × D)} {kvs : List (Key × V)}, RDk g ρ F n l kvs → RDk g ρ F n (l.map fun kv => if keyP kv.1 = some κ then (kv.1, y) else kv) (kvs.map fun kv => if kv.1 = κ then (kv.1, w) else kv)
  | [], [], _ => trivial
  | (k, x) :: l, (κ', v) :: vs, h => by
    obtain ⟨⟨⟨e, z⟩, r⟩, t⟩ := h
    dsimp only at e z r
    rw [List.map_cons, List.map_cons]
    by_cases c : κ' = κ
    · subst c
      simp only [e, if_true]
      exact ⟨⟨⟨e, z⟩, ry⟩, map_dk ry t⟩
    · have : ¬ keyP k = some κ := by rw [e]; exact fun z => c (Option.some.inj z)
      simp only [if_neg this, if_neg c]
      exact ⟨⟨⟨e, z⟩, r⟩, map_dk ry t⟩
  | [], _ :: _, h => h.elim
  | _ :: _, [], h => h.elim
theorem snoc_dk {κ : Key} {n : Nat} {k : P} {y : D} {w : V} (e : keyP k = some κ) (z : kOk k) (ry : RD g ρ F n y w) : ∀ {l : List (P × D)} {kvs : List (Key × V)}, RDk g ρ F n l kvs → RDk g ρ F n (l ++ [(k, y)]) (kvs ++ [(κ, w)])
  | [], [], _ => ⟨⟨⟨e, z⟩, ry⟩, trivial⟩
  | (_, _) :: l, (_, _) :: vs, h => ⟨h.1, snoc_dk e z ry h.2⟩
  | [], _ :: _, h => h.elim
  | _ :: _, [], h => h.elim
theorem any_dt {κ : List Key} {n : Nat} : ∀ {l : List (P × D)} {kvs : List (List Key × V)}, RDt g ρ F n l kvs → (l.any fun kv => decide (keyT kv.1 = some κ)) = kvs.any fun kv => decide (kv.1 = κ)
  | [], [], _ => rfl
  | (k, x) :: l, (κ', v) :: vs, h => by
    obtain ⟨⟨⟨e, _⟩, r⟩, t⟩ := h
    dsimp only at e
    rw [List.any_cons, List.any_cons, any_dt t, e]
    congr 1
    exact decide_eq_decide.mpr Option.some_inj
  | [], _ :: _, h => h.elim
  | _ :: _, [], h => h.elim
theorem map_dt {κ : List Key} {n : Nat} {y : D} {w : V} (ry : RD g ρ F n y w) : ∀ {l : List (P × D)} {kvs : List (List Key × V)}, RDt g ρ F n l kvs → RDt g ρ F n (l.map fun kv => if keyT kv.1 = some κ then (kv.1, y) else kv) (kvs.map fun kv => if kv.1 = κ then (kv.1, w) else kv)
  | [], [], _ => trivial
  | (k, x) :: l, (κ', v) :: vs, h => by
    obtain ⟨⟨⟨e, z⟩, r⟩, t⟩ := h
    dsimp only at e z r
    rw [List.map_cons, List.map_cons]
    by_cases c : κ' = κ
    · subst c
      simp only [e, if_true]
      exact ⟨⟨⟨e, z⟩, ry⟩, map_dt ry t⟩
    · have : ¬ keyT k = some κ := by rw [e]; exact fun z => c (Option.some.inj z)
      simp only [if_neg this, if_neg c]
      exact ⟨⟨⟨e, z⟩, r⟩, map_dt ry t⟩
  | [], _ :: _, h => h.elim
  | _ :: _, [], h => h.elim
theorem snoc_dt {κ : List Key} {n : Nat} {k : P} {y : D} {w : V} (e : keyT k = some κ) (z : kOk k) (ry : RD g ρ F n y w) : ∀ {l : List (P × D)} {kvs : List (List Key × V)}, RDt g ρ F n l kvs → RDt g ρ F n (l ++ [(k, y)]) (kvs ++ [(κ, w)])
  | [], [], _ => ⟨⟨⟨e, z⟩, ry⟩, trivial⟩
  | (_, _) :: l, (_, _) :: vs, h => ⟨h.1, snoc_dt e z ry h.2⟩
  | [], _ :: _, h => h.elim
  | _ :: _, [], h => h.elim
theorem RPs.sLen : ∀ {l : List P} {vs : List V}, RPs g H l vs → ∀ s, P.str s ∈ l → s.length ≤ sizeLine
  | _, _, .nil, s, h => by cases h
  | _, _, .cons r t, s, h => by
    rcases List.mem_cons.mp h with h | h
    · subst h
      cases r with
      | str _ z => exact z
    · exact t.sLen s h
theorem kOk_rp {x : P} {v : V} (r : RP g H x v) : kOk x := by
  cases r with
  | str _ z => exact z
  | tup z _ t => exact ⟨z, t.sLen⟩
  | _ => exact trivial
theorem len_dk {n : Nat} : ∀ {l : List (P × D)} {kvs : List (Key × V)}, RDk g ρ F n l kvs → kvs.length = l.length
  | [], [], _ => rfl
  | _ :: l, _ :: vs, h => congrArg Nat.succ (len_dk h.2)
  | [], _ :: _, h => h.elim
  | _ :: _, [], h => h.elim
theorem len_dt {n : Nat} : ∀ {l : List (P × D)} {kvs : List (List Key × V)}, RDt g ρ F n l kvs → kvs.length = l.length
  | [], [], _ => rfl
  | _ :: l, _ :: vs, h => congrArg Nat.succ (len_dt h.2)
  | [], _ :: _, h => h.elim
  | _ :: _, [], h => h.elim
/-- d[k] = e, d in the store -/
theorem dctW_ok {n : Nat} {k : P} {e : D} {o u w : V} {Qd : Hp → Prop} {E : XK} (M : MRel g ρ F m H) (rd : RD g ρ F m.length (.ref n) o) (rk : RP g F k u) (re : RD g ρ F m.length e w) (h : Post g (fun _ _ _ (_ : Unit) (_ : Unit) => True) ρ F m H (dctW n k e m) (fun _ => Qd) E) : ∃ a H', o = .ref a ∧ DPut H a u w H' ∧ Qd H' := by
  have rkH : RP g H k u := RP.up M.sub rk
  unfold dctW at h
  split at h
  · rename_i l el
    split at h
    · rename_i κ ek
      split at h
      · rename_i hl
        obtain ⟨ho, rfl, h1, h2⟩ := M.look el rd
        cases ho with
        | dK vs =>
          obtain ⟨_, h3⟩ := (show l.length ≤ sizeLine ∧ RDk g ρ F m.length l vs from h2)
          have rel : RDk g ρ F m.length (putDk l k κ e) (putK vs κ w) := by
            unfold putDk putK
            rw [any_dk h3]
            split
            · exact map_dk re h3
            · exact snoc_dk ek (kOk_rp rkH) re h3
          have hz : (putDk l k κ e).length ≤ sizeLine := by
            unfold putDk
            split
            · rw [List.length_map]; omega
            · rw [List.length_append, List.length_singleton]; omega
          obtain ⟨x1, M1⟩ := step_put (o' := .dct (putDk l k κ e)) (ho := .dK (putK vs κ w)) M (get_some el) ⟨hz, rel⟩
          exact ⟨_, _, rfl, .inl ⟨vs, κ, h1, key_v ek rk, by rw [len_dk h3]; exact hl, rfl⟩, h () _ _ _ x1 M1 trivial⟩
        | _ => exact h2.elim
      · exact h.elim
    · exact h.elim
  · rename_i l el
    split at h
    · rename_i κ ek
      split at h
      · rename_i hl
        obtain ⟨ho, rfl, h1, h2⟩ := M.look el rd
        cases ho with
        | dT vs =>
          obtain ⟨_, h3⟩ := (show l.length ≤ sizeLine ∧ RDt g ρ F m.length l vs from h2)
          have rel : RDt g ρ F m.length (putDt l k κ e) (putK vs κ w) := by
            unfold putDt putK
            rw [any_dt h3]
            split
            · exact map_dt re h3
            · exact snoc_dt ek (kOk_rp rkH) re h3
          have hz : (putDt l k κ e).length ≤ sizeLine := by
            unfold putDt
            split
            · rw [List.length_map]; omega
            · rw [List.length_append, List.length_singleton]; omega
          obtain ⟨x1, M1⟩ := step_put (o' := .dcT (putDt l k κ e)) (ho := .dT (putK vs κ w)) M (get_some el) ⟨hz, rel⟩
          obtain ⟨b, rfl, hb⟩ := keyT_v ek rkH
          exact ⟨_, _, rfl, .inr ⟨vs, κ, b, h1, rfl, hb, by rw [len_dt h3]; exact hl, rfl⟩, h () _ _ _ x1 M1 trivial⟩
        | _ => exact h2.elim
      · exact h.elim
    · exact h.elim
  · exact h.elim
/-- a dict's item -/
theorem dget_ok {t : Bool} {l : List (P × P)} {k : P} {o : Option P} {v u : V} (s : Sub F H) (e : dget t l k = some o) (r : RP g F (.dct t l) v) (rk : RP g H k u) : ∃ a w, v = .ref a ∧ DGet H a u w ∧ OptR g F o w := by
  cases r with
  | dK _ h t =>
    unfold dget at e
    cases ek : keyP k with
    | none => rw [ek] at e; cases e
    | some κ =>
      rw [ek] at e
      cases e
      exact ⟨_, _, rfl, .inl ⟨_, κ, .inr ⟨_, s.frz h⟩, key_v ek rk, rfl⟩, find_k t⟩
  | dT _ h t =>
    unfold dget at e
    cases ek : keyT k with
    | none => rw [ek] at e; cases e
    | some κ =>
      rw [ek] at e
      cases e
      obtain ⟨b, rfl, hb⟩ := keyT_v ek rk
      exact ⟨_, _, rfl, .inr ⟨_, κ, b, .inr ⟨_, s.frz h⟩, rfl, hb, rfl⟩, find_t t⟩
theorem oB_ok {o : Option Bool} (h : PostD g ρ F m H (oB o m) Q E) (M : MRel g ρ F m H) : ∃ b, o = some b ∧ Q (.bl b) H := by
  cases o with
  | none => exact h.elim
  | some b => exact ⟨b, rfl, h.val M (RP.bl b)⟩
theorem eqP_ok {x y : P} {b : Bool} (e : eqP x y = some b) : (∃ z w, x = .str z ∧ y = .str w ∧ b = decide (z = w)) ∨ (x.shp = true ∧ y.shp = true ∧ b = PyData.eqv x.py y.py) := by
  unfold eqP at e
  split at e
  · cases e
    exact .inl ⟨_, _, rfl, rfl, rfl⟩
  · split at e
    · rename_i c
      obtain ⟨c1, c2⟩ := Bool.and_eq_true_iff.mp c
      cases e
      exact .inr ⟨c1, c2, rfl⟩
    · cases e
/-- in, by the answer -/
theorem in_run (hK : X.K = g.K) (hu : X.A.units + 65 < cLine) (neg : Bool) {pins : List (Addr × Obj)} {s : Shared} {σ : L2.St} {x y : P} {a b : V} {v u : Value} {c : Bool} (I : Inv X pins σ H s) (ra : RelV a v) (rb : RelV b u) (rx : RP g H x a) (ry : RP g H y b)
    (e : inP x y = some c) (q : Q (.bl (if neg then !c else c)) H) : wpAny (model X.prog X.w) X.A (compareOp (if neg then .NotIn else .In) v u) (EP X pins σ Q) X.xe s := by
  cases y with
  | str w =>
    cases x with
    | str z =>
      cases rx; cases ry
      cases e
      by_cases h1 : ∃ c, z.cps.toList = [c]
      · obtain ⟨cc, hc⟩ := h1
        have hq : hasS w z = decide (cc ∈ w.cps.toList) := by unfold hasS; rw [hc]
        have hz : z = ⟨#[cc]⟩ := by
          obtain ⟨arr⟩ := z
          rw [← Array.toList_inj.mp (show arr.toList = (#[cc] : Array Nat).toList from hc)]
        rw [hq] at q
        subst hz
        cases neg with
        | false => exact op_in_sign pins s σ H _ _ v u Q I ra rb ⟨_, _, rfl, rfl, q⟩
        | true => exact op_notIn_sign pins s σ H _ _ v u Q I ra rb ⟨_, _, rfl, rfl, q⟩
      · have hq : hasS w z = !(Builtin.Str.occurrences w z 0 w.length 1).isEmpty := by
          unfold hasS
          split
          · rename_i c hc; exact absurd ⟨c, hc⟩ h1
          · rfl
        rw [hq] at q
        cases neg with
        | false => exact op_in_str pins s σ H _ _ v u Q I ra rb ⟨_, _, rfl, rfl, q⟩
        | true => exact op_notIn_str pins s σ H _ _ v u Q I ra rb ⟨_, _, rfl, rfl, q⟩
    | _ => cases e
  | lst l =>
    have e : (if x.shp && (P.lst l).shp then some (l.any fun z => PyData.eqv z.py x.py) else none) = some c := e
    split at e
    · rename_i c'
      obtain ⟨c1, c2⟩ := Bool.and_eq_true_iff.mp c'
      cases e
      have d1 : Dp X.K H a x.py := by rw [hK]; exact RP.dp (shp_dat c1) rx
      have d2 : Dp X.K H b (.list (pyL l)) := by rw [hK]; exact RP.dp (x := .lst l) (shp_dat c2) ry
      have ea : ((pyL l).any fun z => PyData.eqv z x.py) = l.any fun z => PyData.eqv z.py x.py := by rw [pyL_map, List.any_map]; rfl
      cases neg with
      | false => exact op_inD hu pins s σ H _ _ v u Q I ra rb ⟨_, _, d1, d2, shp_sh c1, shp_sh (x := .lst l) c2, by rw [ea]; exact q⟩
      | true => exact op_notInD hu pins s σ H _ _ v u Q I ra rb ⟨_, _, d1, d2, shp_sh c1, shp_sh (x := .lst l) c2, by rw [ea]; exact q⟩
    · cases e
  | tup l =>
    have e : (if flatP x && l.all flatP then some (l.any fun z => PyData.eqv z.py x.py) else none) = some c := e
    split at e
    · rename_i c'
      obtain ⟨c1, c2⟩ := Bool.and_eq_true_iff.mp c'
      cases e
      cases ry with
      | tup _ h t =>
        have ei := inV_ok rx c1 t c2
        cases neg with
        | false => exact op_in_seq pins s σ H _ _ v u Q I ra rb ⟨_, _, rfl, .inr (SqT.of h), flat_ok rx c1, flats_ok t c2, by rw [ei]; exact q⟩
        | true => exact op_notIn_seq pins s σ H _ _ v u Q I ra rb ⟨_, _, rfl, .inr (SqT.of h), flat_ok rx c1, flats_ok t c2, by rw [ei]; exact q⟩
    · cases e
  | ktp l =>
    have e : (if flatP x && l.all flatP then some (l.any fun z => PyData.eqv z.py x.py) else none) = some c := e
    split at e
    · rename_i c'
      obtain ⟨c1, c2⟩ := Bool.and_eq_true_iff.mp c'
      cases e
      cases ry with
      | ktp _ h t =>
        have ei := inV_ok rx c1 t c2
        cases neg with
        | false => exact op_in_seq pins s σ H _ _ v u Q I ra rb ⟨_, _, rfl, .inr (by rw [hK]; exact h H), flat_ok rx c1, flats_ok t c2, by rw [ei]; exact q⟩
        | true => exact op_notIn_seq pins s σ H _ _ v u Q I ra rb ⟨_, _, rfl, .inr (by rw [hK]; exact h H), flat_ok rx c1, flats_ok t c2, by rw [ei]; exact q⟩
    · cases e
  | dct t l =>
    obtain ⟨o, e1, e2⟩ := Option.map_eq_some_iff.mp (show (dget t l x).map (·.isSome) = some c from e)
    obtain ⟨p, w, rfl, dg, hw⟩ := dget_ok (Sub.of fun _ _ h => h) e1 ry rx
    have ew : w.isSome = c := by
      rw [← e2]
      cases o with
      | none => rw [show w = none from hw]; rfl
      | some x => obtain ⟨z, hz, _⟩ := hw; rw [hz]; rfl
    cases (show u = Value.ref p from rb)
    cases neg with
    | false => exact d_in (by omega) I dg ra fun s3 I3 => ⟨.bl w.isSome, H, I3, rfl, by rw [ew]; exact q⟩
    | true => exact d_notIn (by omega) I dg ra fun s3 I3 => ⟨.bl (!w.isSome), H, I3, rfl, by rw [ew]; exact q⟩
  | _ => cases e

theorem cmpB_ok {f : P → P → Option Bool} {d e : D} {x y : V} (M : MRel g ρ F m H) (hd : RD g ρ F m.length d x) (he : RD g ρ F m.length e y) (h : PostD g ρ F m H (cmpB f d e m) Q E) :
    ∃ a b c, RP g H a x ∧ RP g H b y ∧ f a b = some c ∧ Q (.bl c) H := by
  unfold cmpB at h
  split at h
  · rename_i a b e1 e2
    obtain ⟨c, ec, q⟩ := oB_ok h M
    exact ⟨a, b, c, rdP_ok M e1 hd, rdP_ok M e2 he, ec, q⟩
  · exact h.elim
/-- the items of two dicts -/
theorem hits_ok {pins : List (Addr × Obj)} {s : Shared} {σ : L2.St} (hK : X.K = g.K) (hu : X.A.units + 65 < cLine) (I : Inv X pins σ H s) {r : List (P × P)} {ls : List (Key × V)} {vb : List (Key × Value)} (tr : RPk g H r ls) (sr : ∀ kv ∈ r, kv.2.shp = true) (rb : KV ls vb) :
    ∀ {l : List (P × P)} {ks : List (Key × V)} {va : List (Key × Value)}, RPk g H l ks → (∀ kv ∈ l, kv.2.shp = true) → KV ks va → PySem.W.KeqHitsP X.prog X.w X.A.in1 s vb va (l.all (eqD1 r))
  | [], _, va, .nil, _, ra => by
    cases va with
    | nil => exact .nil
    | cons q va => unfold KV at ra; cases ra
  | (k, x) :: l, _, va, @RPk.cons _ _ _ _ κ v _ vs hk _ rx t, sl, ra => by
    cases va with
    | nil => unfold KV at ra; cases ra
    | cons q va =>
      have ra' : Paired _ ((κ, v) :: vs) (q :: va) := ra
      cases ra' with
      | cons h ra' =>
        obtain ⟨key, u⟩ := q
        obtain ⟨h1, h2⟩ := h
        have h1 : κ = key := h1
        subst h1
        have ih := hits_ok hK hu I tr sr rb t (fun kv h => sl kv (List.mem_cons_of_mem _ h)) ra'
        have fk := find_k (κ := κ) tr
        have rv := KV.val rb κ
        rw [List.all_cons]
        have e1 : eqD1 r (k, x) = eqItem x ((r.find? fun q => decide (keyP q.1 = some κ)).map (·.2)) := by
          unfold eqD1
          simp only [hk]
        rw [e1]
        cases ef : (r.find? fun q => decide (keyP q.1 = some κ)).map (·.2) with
        | none =>
          rw [ef] at fk
          rw [show valV ls κ = none from fk] at rv
          exact .miss (RelO.none_of rv)
        | some y =>
          rw [ef] at fk
          obtain ⟨z, hz, ry⟩ := fk
          rw [hz] at rv
          obtain ⟨w, hw, rw_⟩ := RelO.some_of rv
          have sy : y.shp = true := by
            obtain ⟨kv, hkv, rfl⟩ := Option.map_eq_some_iff.mp ef
            exact sr kv (List.mem_of_find?_eq_some hkv)
          have sx : x.shp = true := sl (k, x) List.mem_cons_self
          obtain ⟨as, r1⟩ := Dp.reads I x.py v u (by rw [hK]; exact RP.dp (shp_dat sx) rx) h2
          obtain ⟨bs, r2⟩ := Dp.reads I y.py z w (by rw [hK]; exact RP.dp (shp_dat sy) ry) rw_
          refine .hit hw (SeqAt.eqAt_reads _ _ X.A.in1 s u w as bs r1 r2 (SeqAt.canLay_of_shaped (shp_sh sx)) (SeqAt.canLay_of_shaped (shp_sh sy)) ?_).eqP ih
          have d1 := SeqAt.depth_of_shaped (shp_sh sx)
          have : min x.py.depth y.py.depth ≤ x.py.depth := Nat.min_le_left _ _
          show X.A.units + 1 + min x.py.depth y.py.depth < cLine
          omega
theorem eqQ_ok {x y : P} {b : Bool} (e : eqQ x y = some b) : eqP x y = some b ∨ ∃ l r, x = .dct false l ∧ y = .dct false r ∧ (∀ kv ∈ l, kv.2.shp = true) ∧ (∀ kv ∈ r, kv.2.shp = true) ∧ b = (decide (l.length = r.length) && l.all (eqD1 r)) := by
  unfold eqQ at e
  split at e
  · split at e
    · rename_i c
      obtain ⟨c1, c2⟩ := Bool.and_eq_true_iff.mp c
      cases e
      exact .inr ⟨_, _, rfl, rfl, List.all_eq_true.mp c1, List.all_eq_true.mp c2, rfl⟩
    · cases e
  · exact .inl e
theorem RPk.ln : ∀ {l : List (P × P)} {kvs : List (Key × V)}, RPk g F l kvs → l.length = kvs.length
  | _, _, .nil => rfl
  | _, _, .cons _ _ _ t => congrArg Nat.succ t.ln
theorem cmp_ok (hK : X.K = g.K) (hu : X.A.units + 65 < cLine) (o : COp) : OpR X (compareOp (cO o)) (rd2 g (cmpS o)) := by
  rintro pins s σ H x y v u Q I rx ry ⟨d, e, m, ρ, F, E, M, hd, he, h⟩
  cases o with
  | isn =>
    have h : PostD g ρ F m H (if isN e then .ok (.p (.bl (isN d))) m else .no) Q E := h
    split at h
    · rename_i c
      exact op_isN pins s σ H _ _ v u Q I rx ry ⟨isN_v he c, by rw [← isN_ok hd]; exact h.val M (RP.bl _)⟩
    · exact h.elim
  | notn =>
    have h : PostD g ρ F m H (if isN e then .ok (.p (.bl (!isN d))) m else .no) Q E := h
    split at h
    · rename_i c
      exact op_notN pins s σ H _ _ v u Q I rx ry ⟨isN_v he c, by rw [← isN_ok hd]; exact h.val M (RP.bl _)⟩
    · exact h.elim
  | eq =>
    obtain ⟨a, b, c, r1, r2, ec, q⟩ := cmpB_ok M hd he h
    rcases eqQ_ok ec with ec | ⟨l, r, rfl, rfl, sl, sr, rfl⟩
    case inr =>
      cases r1 with
      | dK _ h1 t1 =>
        cases r2 with
        | dK _ h2 t2 =>
          have ev : v = Value.ref _ := rx
          have eu : u = Value.ref _ := ry
          subst ev eu
          obtain ⟨_, ya, va, ra, da⟩ := dk_rd I.hok (.inr ⟨_, h1⟩)
          obtain ⟨_, yb, vb, rb, db⟩ := dk_rd I.hok (.inr ⟨_, h2⟩)
          refine PySem.W.rcP_dicts (knd := mixKind X.prog X.w) ya yb da db (by omega) (fun _ => hits_ok hK hu I t2 sr rb t1 sl ra) _ _ ?_
          have e : (va.length == vb.length) = decide (l.length = r.length) := by
            rw [← ra.length, ← rb.length, ← t1.ln, ← t2.ln]
            rfl
          rw [e]
          exact ⟨.bl _, H, I, rfl, q⟩
    rcases eqP_ok ec with ⟨z, z', rfl, rfl, rfl⟩ | ⟨s1, s2, rfl⟩
    · cases r1; cases r2
      exact op_eq pins s σ H _ _ v u Q I rx ry ⟨rfl, by simpa using q⟩
    exact op_eqD (by omega) pins s σ H _ _ v u Q I rx ry ⟨_, _, by rw [hK]; exact RP.dp (shp_dat s1) r1, by rw [hK]; exact RP.dp (shp_dat s2) r2, shp_sh s1, shp_sh s2, q⟩
  | ne =>
    obtain ⟨a, b, c, r1, r2, ec, q⟩ := cmpB_ok M hd he h
    obtain ⟨c', ec', rfl⟩ := Option.map_eq_some_iff.mp ec
    rcases eqP_ok ec' with ⟨z, z', rfl, rfl, rfl⟩ | ⟨s1, s2, rfl⟩
    · cases r1; cases r2
      exact op_ne pins s σ H _ _ v u Q I rx ry ⟨rfl, by simpa using q⟩
    exact op_neD (by omega) pins s σ H _ _ v u Q I rx ry ⟨_, _, by rw [hK]; exact RP.dp (shp_dat s1) r1, by rw [hK]; exact RP.dp (shp_dat s2) r2, shp_sh s1, shp_sh s2, q⟩
  | lt =>
    obtain ⟨a, b, c, r1, r2, ec, q⟩ := cmpB_ok M hd he h
    unfold ltP at ec
    split at ec
    · cases r1; cases r2; cases ec
      exact op_lt pins s σ H _ _ v u Q I rx ry ⟨_, _, rfl, rfl, q⟩
    · cases r1; cases r2; cases ec
      exact op_lt_str pins s σ H _ _ v u Q I rx ry ⟨_, _, rfl, rfl, q⟩
    · cases ec
  | gt =>
    obtain ⟨a, b, c, r1, r2, ec, q⟩ := cmpB_ok M hd he h
    unfold ltP at ec
    split at ec
    · cases r1; cases r2; cases ec
      exact op_gt pins s σ H _ _ v u Q I rx ry ⟨_, _, rfl, rfl, q⟩
    · cases r1; cases r2; cases ec
      exact op_gt_str pins s σ H _ _ v u Q I rx ry ⟨_, _, rfl, rfl, q⟩
    · cases ec
  | le =>
    obtain ⟨a, b, c, r1, r2, ec, q⟩ := cmpB_ok M hd he h
    unfold leP at ec
    split at ec
    · cases r1; cases r2; cases ec
      exact op_le pins s σ H _ _ v u Q I rx ry ⟨_, _, rfl, rfl, q⟩
    · cases ec
  | ge =>
    obtain ⟨a, b, c, r1, r2, ec, q⟩ := cmpB_ok M hd he h
    unfold leP at ec
    split at ec
    · cases r1; cases r2; cases ec
      exact op_ge pins s σ H _ _ v u Q I rx ry ⟨_, _, rfl, rfl, q⟩
    · cases ec
  | inn =>
    obtain ⟨a, b, c, r1, r2, ec, q⟩ := cmpB_ok M hd he h
    exact in_run hK hu false I rx ry r1 r2 ec q
  | nin =>
    obtain ⟨a, b, c, r1, r2, ec, q⟩ := cmpB_ok M hd he h
    obtain ⟨c', ec', rfl⟩ := Option.map_eq_some_iff.mp ec
    exact in_run hK hu true I rx ry r1 r2 ec' q
end
end Dn

/-! Dn, part F: kinds, subscripts, calls of built-ins, by values. -/
namespace Dn
open PySem PySem.Spec PyProof.Rows L2

def tyV (g : Gn) : Ty → V
  | .own c => .ref (g.cA c)
  | t => .ty (tyS t)
def tyU (g : Gn) : Ty → Value
  | .own c => .ref (g.cA c)
  | t => .type (tyS t)
/-- what is known of the classes of the text -/
structure Kf (g : Gn) : Prop where
  inj : ∀ a b, g.fN a = g.fN b → a = b
  cls : ∀ c, g.cs c = true → Cls g.K (g.cA c)
  nf : ∀ c d, g.cs c = true → g.cs d = true → PySem.W.notFirst g.K (g.cA c) (.ref (g.cA d)) = true
  co : ∀ c, g.cs c = true → PySem.W.findIn g.K (.ref (g.cA c)) "__class__" = some (some (.builtin "object.__class__"))
  cg : ∀ c, g.cs c = true → PySem.W.specialIn g.K (.builtin "object.__class__") "__get__" = some (some (.builtin "getset_descriptor.__get__"))
  ct : ∀ c, g.cs c = true → PySem.W.takesIn g.K (.builtin "object.__class__") = some true
  cm : ∀ c, g.cs c = true → PySem.W.mroIn g.K (g.cA c) (.type "object") = some true
  k1 : ∀ c, g.cs c = true → ∀ t ∈ bts, PySem.W.kitOne g.K (.type t) (.ref (g.cA c)) = some false
  k2 : ∀ c d, g.cs c = true → g.cs d = true → PySem.W.kitOne g.K (.ref (g.cA d)) (.ref (g.cA c)) = some (decide (c = d))
  k3 : ∀ c, g.cs c = true → ∀ t ∈ bts, PySem.W.kitOne g.K (.ref (g.cA c)) (.type t) = some false
section
variable {X : Cx} {g : Gn} {ρ : Rho} {F H : Hp} {m : Mem} {Q : VK} {E : XK}
def kindU (g : Gn) : Nat ⊕ String → Value
  | .inl c => .ref (g.cA c)
  | .inr s => .type s
theorem kind_ok (hk : Kf g) (M : MRel g ρ F m H) {d : D} {v : V} {k : Nat ⊕ String} (r : RD g ρ F m.length d v) (e : kindS d m = some k) : TyX g.K H v (kindU g k) ∧ (∀ c, k = .inl c → g.cs c = true) ∧ ∀ s, k = .inr s → s ∈ bts := by
  cases d with
  | p x =>
    have r := RP.up M.sub (show RP g F x v from r)
    cases r with
    | non => cases e; exact ⟨.base .non, (fun _ z => by cases z), fun s z => by cases z; decide⟩
    | bl b => cases e; exact ⟨.base (.bl b), (fun _ z => by cases z), fun s z => by cases z; decide⟩
    | int i => cases e; exact ⟨.base (.int i), (fun _ z => by cases z), fun s z => by cases z; decide⟩
    | str z _ => cases e; exact ⟨.base (.str z), (fun _ z => by cases z), fun s z => by cases z; decide⟩
    | tup _ h t => cases e; exact ⟨.base (.tup h), (fun _ z => by cases z), fun s z => by cases z; decide⟩
    | lst _ h t => cases e; exact ⟨.base (.lst h), (fun _ z => by cases z), fun s z => by cases z; decide⟩
    | dK _ h t =>
      cases e
      exact ⟨.fDict h, (fun _ z => by cases z), fun s z => by cases z; decide⟩
    | dT _ h t => cases e
    | ins z h t => cases e; exact ⟨.base (.ins h (hk.cls _ z) (hk.co _ z) (hk.cg _ z) (hk.ct _ z) (hk.cm _ z)), (fun c q => by cases q; exact z), (fun s z => by cases z)⟩
    | ktp _ h t => cases e
    | scr _ h => cases e
    | cls h => cases e
    | exn _ _ _ => cases e
  | ref n =>
    have e' : (match m.get n with | some (.lst _) => some (Sum.inr "list") | some (.dct _) => some (.inr "dict") | some (.dcT _) => some (.inr "dict") | some (.ins k _) => some (.inl k) | _ => none) = some k := e
    cases q : m.get n with
    | none => rw [q] at e'; cases e'
    | some o =>
      rw [q] at e'
      obtain ⟨ho, rfl, h1, h2⟩ := M.look q r
      cases o with
      | lst l =>
        cases e'
        obtain ⟨vs, rfl, _⟩ := rmo_lst h2
        exact ⟨.base (.lst h1), (fun _ z => by cases z), fun s z => by cases z; decide⟩
      | dct l =>
        cases e'
        obtain ⟨vs, rfl, _⟩ := rmo_dct h2
        exact ⟨.base (.dK h1), (fun _ z => by cases z), fun s z => by cases z; decide⟩
      | dcT l =>
        cases e'
        obtain ⟨vs, rfl, _⟩ := rmo_dcT h2
        exact ⟨.base (.dT h1), (fun _ z => by cases z), fun s z => by cases z; decide⟩
      | ins c l =>
        cases e'
        obtain ⟨dx, fs, rfl, z, _⟩ := rmo_ins h2
        exact ⟨.base (.ins h1 (hk.cls _ z) (hk.co _ z) (hk.cg _ z) (hk.ct _ z) (hk.cm _ z)), (fun c q => by cases q; exact z), (fun s z => by cases z)⟩
      | scr l => cases e'
def tyOk (g : Gn) : Ty → Bool
  | .own c => g.cs c
  | _ => true
theorem isTy_kind {c : Ty} {d : D} {m : Mem} {b : Bool} (e : isTy c d m = some b) : ∃ k, kindS d m = some k ∧ b = isK c k := by
  obtain ⟨k, e1, e2⟩ := Option.map_eq_some_iff.mp (show (kindS d m).map (isK c) = some b from e)
  exact ⟨k, e1, e2.symm⟩
theorem kit_bts : ∀ s ∈ bts, ∀ c ∈ [Ty.int, .bool, .str, .list, .tuple, .dict], kitB s (tyS c) = some (isK c (.inr s)) := by decide +kernel
theorem kit_ok (hk : Kf g) {c : Ty} (hc : tyOk g c = true) {k : Nat ⊕ String} (h1 : ∀ c, k = .inl c → g.cs c = true) (h2 : ∀ s, k = .inr s → s ∈ bts) : PySem.W.kitOne g.K (kindU g k) (tyU g c) = some (isK c k) := by
  cases k with
  | inl j =>
    have hj := h1 j rfl
    cases c with
    | own c => exact hk.k2 c j hc hj
    | int => exact hk.k3 j hj "int" (by decide)
    | bool => exact hk.k3 j hj "bool" (by decide)
    | str => exact hk.k3 j hj "str" (by decide)
    | list => exact hk.k3 j hj "list" (by decide)
    | tuple => exact hk.k3 j hj "tuple" (by decide)
    | dict => exact hk.k3 j hj "dict" (by decide)
  | inr s =>
    have hs := h2 s rfl
    cases c with
    | own c => exact hk.k1 c hc s hs
    | int => exact kit_ty (kit_bts s hs .int (by simp))
    | bool => exact kit_ty (kit_bts s hs .bool (by simp))
    | str => exact kit_ty (kit_bts s hs .str (by simp))
    | list => exact kit_ty (kit_bts s hs .list (by simp))
    | tuple => exact kit_ty (kit_bts s hs .tuple (by simp))
    | dict => exact kit_ty (kit_bts s hs .dict (by simp))
theorem isTys_ok (hk : Kf g) {l : List Ty} {d : D} {b : Bool} (hl : l.all (tyOk g) = true) (M : MRel g ρ F m H) {v : V} (r : RD g ρ F m.length d v) (e : isTys l d m = some b) {k : Nat ⊕ String} (ek : kindS d m = some k) : PySem.W.kitAny g.K (kindU g k) (l.map (tyU g)) = some b := by
  obtain ⟨_, h1, h2⟩ := kind_ok hk M r ek
  induction l with
  | nil => cases e; rfl
  | cons c l ih =>
    rw [List.all_cons, Bool.and_eq_true] at hl
    unfold isTys at e
    split at e
    · rename_i ec
      cases e
      obtain ⟨k', e1, e2⟩ := isTy_kind ec
      rw [ek] at e1; cases e1
      exact kitAny_cons (b := true) (by rw [kit_ok hk hl.1 h1 h2, ← e2]) (fun z => nomatch z) (fun _ => rfl)
    · rename_i ec
      obtain ⟨k', e1, e2⟩ := isTy_kind ec
      rw [ek] at e1; cases e1
      exact kitAny_cons (b := false) (by rw [kit_ok hk hl.1 h1 h2, ← e2]) (fun _ => ih hl.2 e) (fun z => nomatch z)
    · cases e
/-- the classes that isinstance is given -/
theorem tys_cls (l : List Ty) : Paired ClsV (l.map (tyV g)) (l.map (tyU g)) := by
  induction l with
  | nil => exact .nil
  | cons c l ih => exact .cons (by cases c <;> first | exact .ty _ | exact .own _) ih

/-! ### subscripts -/
def rIxD : R2 := fun x y H Q => ∃ a v, x = .ref a ∧ DGet H a y (some v) ∧ Q v H
theorem ix_dict (hu : X.A.units + 1 < cLine) : IxR X rIxD := by
  rintro value slice pins s σ H x y v u Q I rx ry ⟨a, z, rfl, dg, q⟩ hs
  cases (show v = Value.ref a from rx)
  have hT := dict_typeIs I dg
  unfold subscriptTail
  refine wpAny_bind ?_
  rw [getitemInPython_of_ne hT.not_modules]
  refine wpAny_bind (wpAny_specialOf hT PySem.F.slot_dict_getitem.lookup ?_)
  have fin : wpAny (model X.prog X.w) X.A (subscripted slice false (.ref a) u) (fun r s₃ => wpAny (model X.prog X.w) X.A (letTemporaryGo value (.ref a) r >>= fun _ => pure r) (EP X pins σ Q) X.xe s₃) X.xe s := by
    rw [hs]
    exact wpAny_operating (wpAny_mono (d_getItem (Q := fun r s3 => EP X pins σ Q r s3) hu I dg ry fun w' s' I' rw' => ⟨z, H, I', rw', q⟩) (fun r s₃ h₃ => wpAny_bind (wpAny_letTemporaryGo (wpAny_pure h₃))) fun _ _ x => x)
  first
    | exact wpAny_pure (wpAny_bind fin)
    | exact wpAny_bind (wpAny_pure (wpAny_bind fin))
    | exact wpAny_bind fin
theorem ixN_lt {n : Nat} {i : Int} {j : Nat} (h : ixN n i = some j) : j < n := (ixN_seq h).2.1
theorem atI_rel {k : Nat} {l : List D} {vs : List V} (r : RDs g ρ F k l vs) {i : Int} {d : D} (e : atI l i = some d) : ∃ v, atI vs i = some v ∧ RD g ρ F k d v := by
  unfold atI at e ⊢
  rw [← r.length]
  cases h : ixN l.length i with
  | none => rw [h] at e; cases e
  | some j =>
    rw [h] at e
    exact r.get (i := j) e
theorem ix_ok (hK : X.K = g.K) (hu : X.A.units + 65 < cLine) : IxR X (rd2 g ixS) := by
  rintro value slice pins s σ H x y v u Q I rx ry ⟨d, e, m, ρ, F, E, M, hd, he, h⟩ hs
  unfold ixS at h
  split at h
  · cases hd with
    | str _ hz =>
      cases he
      split at h
      · rename_i c hc
        exact ix_str value slice pins s σ H _ _ v u Q I rx ry ⟨_, _, c, rfl, rfl, hz, hc, h.val M (RP.str _ (by simp [Str.length, PySem.sizeLine]))⟩ hs
      · exact h.elim
  · split at h
    · rename_i x ex
      obtain ⟨a, w, rfl, dg, hw⟩ := dget_ok M.sub ex hd (RP.up M.sub he)
      obtain ⟨z, hz, rz⟩ := hw
      subst hz
      exact ix_dict (by omega) value slice pins s σ H _ _ v u Q I rx ry ⟨a, z, rfl, dg, h.val M rz⟩ hs
    · exact h.elim
  · cases he
    split at h
    · rename_i l el
      obtain ⟨a, vs, _, rfl, r, q⟩ := seqD_ok M el hd
      split at h
      · rename_i d' ed
        obtain ⟨z, hz, rz⟩ := atI_rel r ed
        have qq := h.val M rz
        rcases q with ⟨k, _⟩ | ⟨k, _⟩
        · exact ix_list value slice pins s σ H _ _ v u Q I rx ry ⟨a, vs, _, z, rfl, rfl, SqL.of k, hz, qq⟩ hs
        · exact ix_tup value slice pins s σ H _ _ v u Q I rx ry ⟨a, vs, _, z, rfl, rfl, by rw [hK]; exact k, hz, qq⟩ hs
      · exact h.elim
    · obtain ⟨a, z, rfl, dg, q⟩ := dctR_ok M hd (RP.int _) h
      exact ix_dict (by omega) value slice pins s σ H _ _ v u Q I rx ry ⟨a, z, rfl, dg, q⟩ hs
  · obtain ⟨a, z, rfl, dg, q⟩ := dctR_ok M hd (RP.up M.sub he) h
    exact ix_dict (by omega) value slice pins s σ H _ _ v u Q I rx ry ⟨a, z, rfl, dg, q⟩ hs
  · exact h.elim
end
end Dn

/-! Dn, part G: slices, built-in functions, methods, by values. -/
namespace Dn
open PySem PySem.Spec PyProof.Rows L2
section
universe u
variable {α : Type} {X : Cx} {g : Gn} {ρ : Rho} {F H : Hp} {m : Mem} {Q : VK} {E : XK}
def rdSl (g : Gn) : V → Option Int → Option Int → Hp → VK → Prop := fun x lo hi H Q => ∃ d m ρ F E, MRel g ρ F m H ∧ RD g ρ F m.length d x ∧ PostD g ρ F m H (slS d lo hi m) Q E
theorem cut_rp {l : List P} {vs : List V} (r : RPs g F l vs) (lo hi : Option Int) : RPs g F (cutD l lo hi) (cutV vs lo hi) := by
  unfold cutD cutV
  rw [← r.length]
  exact RPs.take _ (RPs.drop _ r)
theorem cut_rd {k : Nat} {l : List D} {vs : List V} (r : RDs g ρ F k l vs) (lo hi : Option Int) : RDs g ρ F k (cutD l lo hi) (cutV vs lo hi) := by
  unfold cutD cutV
  rw [← r.length]
  exact RDs.take _ (RDs.drop _ r)
theorem cut_ints (ns : List Int) (lo hi : Option Int) : cutV (ns.map V.int) lo hi = (cutD ns lo hi).map V.int := by
  unfold cutD cutV
  rw [List.length_map, List.map_take, List.map_drop]
theorem cutD_len {α : Type} (l : List α) (lo hi : Option Int) : (cutD l lo hi).length ≤ l.length := by
  unfold cutD
  rw [List.length_take, List.length_drop]
  omega
theorem cutS_len (z : Str) (lo hi : Option Int) : (cutS z lo hi).length ≤ z.length := by
  unfold cutS
  simp only [Str.length, List.size_toArray, List.length_take, List.length_drop]
  have : z.cps.toList.length = z.cps.size := Array.length_toList
  omega
theorem sl_ok (hK : X.K = g.K) : SlR X (rdSl g) := by
  rintro pins s σ H x v vl vu lo hi sl Q I rx hs pl pu ⟨d, m, ρ, F, E, M, hd, h⟩
  unfold slS at h
  split at h
  · cases hd with
    | str _ hz => exact sl_str pins s σ H _ v vl vu lo hi sl Q I rx hs pl pu ⟨_, rfl, hz, h.val M (RP.str _ (Nat.le_trans (cutS_len _ _ _) hz))⟩
  · cases hd with
    | lst hz h1 t => exact sl_list pins s σ H _ v vl vu lo hi sl Q I rx hs pl pu ⟨_, _, rfl, SqL.of (M.sub.lst h1), fun p hp => h.newLst (Nat.le_trans (cutD_len _ _ _) hz) M (cut_rp t lo hi) hp⟩
  · cases hd with
    | scr hz h1 =>
      refine sl_list pins s σ H _ v vl vu lo hi sl Q I rx hs pl pu ⟨_, _, rfl, by rw [hK]; exact M.sub.seq h1, fun p hp => ?_⟩
      rw [cut_ints]
      exact h.newLst (by rw [List.length_map]; exact Nat.le_trans (cutD_len _ _ _) hz) M (RPs.ofInts _) hp
  · cases hd with
    | tup hz h1 t =>
      refine sl_tupA pins s σ H _ v vl vu lo hi sl Q I rx hs pl pu ⟨_, _, rfl, SqT.of (M.sub.tup h1), fun c => ?_, fun c p hp => h.newTup (Nat.le_trans (cutD_len _ _ _) hz) M (cut_rp t lo hi) hp⟩
      rename_i l a vs
      have e : cutD l lo hi = l := by
        unfold cutD
        rw [t.length, c.1, c.2, ← t.length, List.drop_zero, Nat.sub_zero, List.take_length]
      rw [e] at h
      exact h.val M (RP.tup hz h1 t)
  · split at h
    · rename_i l e
      have hz := M.line (get_some e)
      obtain ⟨ho, rfl, h1, h2⟩ := M.look e hd
      obtain ⟨vs, rfl, h3⟩ := rmo_lst h2
      refine sl_list pins s σ H _ v vl vu lo hi sl Q I rx hs pl pu ⟨_, _, rfl, SqL.of h1, fun p hp => ?_⟩
      split at h
      · rename_i ps ep
        rw [allP_eq ep] at h3 hz
        rw [List.length_map] at hz
        exact h.newLst (Nat.le_trans (cutD_len _ _ _) hz) M (cut_rp (RPs.of h3) lo hi) hp
      · exact h.newL (Nat.le_trans (cutD_len _ _ _) hz) M (cut_rd h3 lo hi) hp
    · exact h.elim
  · exact h.elim
theorem onL_ok {α : Type} {f : List P → Option α} {k : α → P} {d : D} {v : V} (M : MRel g ρ F m H) (hd : RD g ρ F m.length d v) (h : PostD g ρ F m H (onL f k d m) Q E) :
    ∃ a vs l x, v = .ref a ∧ H a = some (.lst vs) ∧ RPs g H l vs ∧ f l = some x ∧ PostD g ρ F m H (.ok (.p (k x)) m) Q E := by
  unfold onL at h
  split at h
  · rename_i l e
    have r := rdP_ok M e hd
    cases r with
    | lst hz h1 t =>
      split at h
      · rename_i x ex
        exact ⟨_, _, l, x, rfl, h1, t, ex, h⟩
      · exact h.elim
  · exact h.elim
theorem keys_rd {k : Nat} : ∀ {l : List (P × D)} {kvs : List (Key × V)}, RDk g ρ F k l kvs → RDs g ρ F k ((l.map (·.1)).map D.p) (kvs.map fun kv => kV kv.1)
  | [], [], _ => trivial
  | (x, d) :: l, (κ, v) :: vs, h => by
    obtain ⟨⟨⟨e, z⟩, r⟩, t⟩ := h
    dsimp only at e z
    refine ⟨?_, keys_rd t⟩
    show RP g F x (kV κ)
    cases x with
    | int i => cases e; exact RP.int i
    | str s => cases e; exact RP.str s z
    | _ => cases e
  | [], _ :: _, h => h.elim
  | _ :: _, [], h => h.elim
theorem dctK_ok {d : D} {ks : List P} {v : V} (M : MRel g ρ F m H) (e : dctK d m = some ks) (rd : RD g ρ F m.length d v) : ∃ a kvs, v = .ref a ∧ H a = some (.dK kvs) ∧ ks.length = kvs.length ∧ ks.length ≤ sizeLine ∧ RDs g ρ F m.length (ks.map D.p) (kvs.map fun kv => kV kv.1) := by
  unfold dctK at e
  split at e
  · rename_i n
    split at e
    · rename_i l el
      cases e
      obtain ⟨ho, rfl, h1, h2⟩ := M.look el rd
      cases ho with
      | dK vs =>
        obtain ⟨hz, h3⟩ := (show l.length ≤ sizeLine ∧ RDk g ρ F m.length l vs from h2)
        exact ⟨_, vs, rfl, h1, by rw [List.length_map, len_dk h3], by rw [List.length_map]; exact hz, keys_rd h3⟩
      | _ => exact h2.elim
    · cases e
  · cases e
theorem len_ok (hK : X.K = g.K) : CallR X (.builtin "len") (rdN g (bclS .len)) := by
  rintro pins s σ H xs us Q I r ⟨ds, m, ρ, F, E, M, rs, h⟩
  match ds, xs, rs with
  | [], _, _ => exact h.elim
  | [d], [x], rs =>
    have hd := rs.1
    have h : PostD g ρ F m H (lenS d m) Q E := h
    unfold lenS at h
    split at h
    · cases hd with
      | str _ hz => exact call_len_str pins s σ H _ us Q I r ⟨_, rfl, hz, h.val M (RP.int _)⟩
    · cases hd with
      | dK hz h1 t =>
        obtain ⟨u, rfl, ru⟩ := vals1 r
        cases ru
        have hl : ∀ {l : List (P × P)} {kvs : List (Key × V)}, RPk g F l kvs → l.length = kvs.length := by
          intro l kvs z
          induction l generalizing kvs with
          | nil => cases z; rfl
          | cons a l ih => cases z with | cons _ _ _ z => exact congrArg Nat.succ (ih z)
        rw [hl t] at h
        exact d_len I (.inr ⟨_, M.sub.frz h1⟩) fun t s' I' => ⟨.int _, H, I', ⟨t, rfl⟩, h.val M (RP.int _)⟩
    · split at h
      · rename_i l e
        obtain ⟨a, vs, _, rfl, r1, q⟩ := seqD_ok M e hd
        have qq := h.val M (RP.int _)
        rw [r1.length] at qq
        rcases q with ⟨k, _⟩ | ⟨k, _⟩
        · exact call_len_seq pins s σ H _ us Q I r ⟨a, vs, rfl, .inl (SqL.of k), qq⟩
        · exact call_len_seq pins s σ H _ us Q I r ⟨a, vs, rfl, .inr (by rw [hK]; exact k), qq⟩
      · split at h
        · rename_i ks ek
          obtain ⟨a, kvs, rfl, h1, hl, _, _⟩ := dctK_ok M ek hd
          obtain ⟨u, rfl, ru⟩ := vals1 r
          cases ru
          rw [hl] at h
          exact d_len I (.inl h1) fun t s' I' => ⟨.int _, H, I', ⟨t, rfl⟩, h.val M (RP.int _)⟩
        · exact h.elim
  | _ :: _ :: _, _, _ => exact h.elim
theorem int_ok : CallR X (.type "int") (rdN g (bclS .int)) := by
  rintro pins s σ H xs us Q I r ⟨ds, m, ρ, F, E, M, rs, h⟩
  match ds, xs, rs with
  | [], _, _ => exact h.elim
  | [d], [x], rs =>
    have hd := rs.1
    have h : PostD g ρ F m H (intS d m) Q E := h
    unfold intS at h
    split at h
    · cases hd
      exact call_int1 pins s σ H _ us Q I r (.inl ⟨_, rfl, h.val M (RP.int _)⟩)
    · cases hd
      exact call_int1 pins s σ H _ us Q I r (.inr ⟨_, rfl, h.val M (RP.int _)⟩)
    · cases hd
      split at h
      · rename_i n e
        split at h
        · rename_i hz
          exact call_int_str pins s σ H _ us Q I r ⟨_, n, rfl, e, hz, h.val M (RP.int _)⟩
        · exact h.elim
      · exact h.elim
    · exact h.elim
  | _ :: _ :: _, _, _ => exact h.elim
theorem abs_ok : CallR X (.builtin "abs") (rdN g (bclS .abs)) := by
  rintro pins s σ H xs us Q I r ⟨ds, m, ρ, F, E, M, rs, h⟩
  match ds, xs, rs with
  | [], _, _ => exact h.elim
  | [d], [x], rs =>
    have hd := rs.1
    have h : PostD g ρ F m H (absS d m) Q E := h
    unfold absS at h
    split at h
    · cases hd
      exact call_abs pins s σ H _ us Q I r ⟨_, rfl, h.val M (RP.int _)⟩
    · exact h.elim
  | _ :: _ :: _, _, _ => exact h.elim
theorem keys_rp : ∀ {l : List (P × P)} {kvs : List (Key × V)}, RPk g F l kvs → RPs g F (l.map (·.1)) (kvs.map fun kv => kV kv.1)
  | _, _, .nil => .nil
  | _, _, .cons e z r t => by
    refine .cons ?_ (keys_rp t)
    rename_i k x κ v l vs
    cases k with
    | int i => cases e; exact .int _
    | str y => cases e; exact .str _ z
    | _ => cases e
theorem list_ok (hK : X.K = g.K) (hc : X.calm = true) (mu : Bool) : CallR X (.type "list") (rdN g (fun l m => match l with | [a] => listS mu a m | _ => .no)) := by
  rintro pins s σ H xs us Q I r ⟨ds, m, ρ, F, E, M, rs, h⟩
  match ds, xs, rs with
  | [], _, _ => exact h.elim
  | [d], [x], rs =>
    have hd := rs.1
    have h : PostD g ρ F m H (listS mu d m) Q E := h
    unfold listS at h
    split at h
    · cases hd with
      | dK hz h1 t =>
        rename_i lp _ a kvs od
        have e : (lp.map fun kv => D.p kv.1) = (lp.map (·.1)).map D.p := by rw [List.map_map]; rfl
        rw [e] at h
        obtain ⟨_, z⟩ := mkL_post (by rw [List.length_map, List.length_map]; exact hz) h M (RPs.ds (keys_rp t))
        exact call_listD hc pins s σ H _ us Q I r ⟨_, kvs, rfl, .inr ⟨_, M.sub.frz h1⟩, z⟩
    · split at h
      · rename_i l e
        obtain ⟨a, vs, hz, rfl, r1, q⟩ := seqD_ok M e hd
        obtain ⟨_, z⟩ := mkL_post hz h M r1
        rcases q with ⟨k, _⟩ | ⟨k, _⟩
        · exact call_list_of pins s σ H _ us Q I r ⟨a, vs, rfl, .inl (SqL.of k), z⟩
        · exact call_list_of pins s σ H _ us Q I r ⟨a, vs, rfl, .inr (by rw [hK]; exact k), z⟩
      · split at h
        · rename_i ks ek
          obtain ⟨a, kvs, rfl, h1, hl, hz, r1⟩ := dctK_ok M ek hd
          obtain ⟨_, z⟩ := mkL_post (by rw [List.length_map]; exact hz) h M r1
          exact call_listD hc pins s σ H _ us Q I r ⟨a, kvs, rfl, .inl h1, z⟩
        · exact h.elim
  | _ :: _ :: _, _, _ => exact h.elim
theorem tuple_ok (hK : X.K = g.K) : CallR X (.type "tuple") (rdN g (bclS .tuple)) := by
  rintro pins s σ H xs us Q I r ⟨ds, m, ρ, F, E, M, rs, h⟩
  match ds, xs, rs with
  | [], _, _ => exact h.elim
  | [d], [x], rs =>
    have hd := rs.1
    have h : PostD g ρ F m H (tupleS d m) Q E := h
    unfold tupleS at h
    split at h
    · rename_i it
      cases d with
      | p y => cases y with
        | tup l =>
          have qq := h.val M hd
          cases hd with
          | tup _ h1 t => exact call_tuple_of pins s σ H _ us Q I r ⟨_, _, rfl, .inr ⟨SqT.of (M.sub.tup h1), qq⟩⟩
        | ktp l =>
          have qq := h.val M hd
          cases hd with
          | ktp _ h1 t => exact call_tuple_of pins s σ H _ us Q I r ⟨_, _, rfl, .inr ⟨by rw [hK]; exact h1 H, qq⟩⟩
        | _ => cases it
      | ref n => cases it
    · rename_i it
      split at h
      · rename_i l e
        obtain ⟨a, vs, hz, rfl, r1, q⟩ := seqD_ok M e hd
        obtain ⟨_, z⟩ := mkT_post hz h M r1
        rcases q with ⟨k, _⟩ | ⟨_, ps, k⟩
        · exact call_tuple_of pins s σ H _ us Q I r ⟨a, vs, rfl, .inl ⟨SqL.of k, z⟩⟩
        · rcases k with k | k <;> (subst k; exact absurd rfl it)
      · exact h.elim
  | _ :: _ :: _, _, _ => exact h.elim
theorem all_ok (hc : X.calm = true) : CallR X (.builtin "all") (rdN g (bclS .all)) := by
  rintro pins s σ H xs us Q I r ⟨ds, m, ρ, F, E, M, rs, h⟩
  match ds, xs, rs with
  | [], _, _ => exact h.elim
  | [d], [x], rs =>
    obtain ⟨a, vs, l, bs, rfl, h1, t, ef, h⟩ := onL_ok M rs.1 (show PostD g ρ F m H (onL blsP (fun bs => .bl (bs.all id)) d m) Q E from h)
    rw [blsP_eq ef] at t
    rw [t.bls] at h1
    exact cr_all hc pins s σ H _ us Q I r ⟨a, bs, rfl, SqL.of h1, h.val M (RP.bl _)⟩
  | _ :: _ :: _, _, _ => exact h.elim
theorem any_ok (hc : X.calm = true) : CallR X (.builtin "any") (rdN g (bclS .any)) := by
  rintro pins s σ H xs us Q I r ⟨ds, m, ρ, F, E, M, rs, h⟩
  match ds, xs, rs with
  | [], _, _ => exact h.elim
  | [d], [x], rs =>
    obtain ⟨a, vs, l, bs, rfl, h1, t, ef, h⟩ := onL_ok M rs.1 (show PostD g ρ F m H (onL blsP (fun bs => .bl (bs.any id)) d m) Q E from h)
    rw [blsP_eq ef] at t
    rw [t.bls] at h1
    exact cr_any hc pins s σ H _ us Q I r ⟨a, bs, rfl, SqL.of h1, h.val M (RP.bl _)⟩
  | _ :: _ :: _, _, _ => exact h.elim
theorem sum_ok (hc : X.calm = true) : CallR X (.builtin "sum") (rdN g (bclS .sum)) := by
  rintro pins s σ H xs us Q I r ⟨ds, m, ρ, F, E, M, rs, h⟩
  match ds, xs, rs with
  | [], _, _ => exact h.elim
  | [d], [x], rs =>
    obtain ⟨a, vs, l, bs, rfl, h1, t, ef, h⟩ := onL_ok M rs.1 (show PostD g ρ F m H (onL intsP (fun ns => .int ns.sum) d m) Q E from h)
    rw [intsP_eq ef] at t
    rw [t.ints] at h1
    exact cr_sum hc pins s σ H _ us Q I r ⟨a, bs, rfl, SqL.of h1, h.val M (RP.int _)⟩
  | _ :: _ :: _, _, _ => exact h.elim
theorem str_ok : CallR X (.type "str") (rdN g (bclS .str)) := by
  rintro pins s σ H xs us Q I r ⟨ds, m, ρ, F, E, M, rs, h⟩
  match ds, xs, rs with
  | [], _, _ => exact h.elim
  | [d], [x], rs =>
    have hd := rs.1
    have h : PostD g ρ F m H (strS d m) Q E := h
    unfold strS at h
    split at h
    · cases hd
      split at h
      · rename_i hz
        exact call_str_int pins s σ H _ us Q I r ⟨_, rfl, hz, h.val M (RP.str _ (int_text_fits hz))⟩
      · exact h.elim
    · cases hd with
      | str _ n => exact SkE.call_str_str pins s σ H _ us Q I r ⟨_, rfl, h.val M (RP.str _ n)⟩
    · exact h.elim
  | _ :: _ :: _, _, _ => exact h.elim
/-- a built-in function's name; is it a class -/
theorem RPs.ofStrs : ∀ {ss : List Str}, (∀ s ∈ ss, s.length ≤ sizeLine) → RPs g F (ss.map P.str) (ss.map V.str)
  | [], _ => .nil
  | s :: ss, h => .cons (.str s (h s List.mem_cons_self)) (RPs.ofStrs fun z hz => h z (List.mem_cons_of_mem _ hz))
theorem RPs.strLens : ∀ {ss : List Str} {vs : List V}, RPs g F (ss.map P.str) vs → ∀ s ∈ ss, s.length ≤ sizeLine
  | [], _, _, s, h => by cases h
  | a :: l, _, .cons r t, s, h => by
    rcases List.mem_cons.mp h with q | q
    · subst q; cases r with | str _ hz => exact hz
    · exact RPs.strLens t s q
theorem strsP_map : ∀ ss : List Str, strsP (ss.map P.str) = some ss
  | [] => rfl
  | s :: ss => by
    show (strsP (ss.map P.str)).map (s :: ·) = _
    rw [strsP_map ss]
    rfl
theorem lstP_ok (M : MRel g ρ F m H) {d : D} {l : List P} {v : V} (e : lstP m d = some l) (r : RD g ρ F m.length d v) : ∃ a vs, v = .ref a ∧ H a = some (.lst vs) ∧ RPs g H l vs ∧ l.length ≤ sizeLine := by
  unfold lstP at e
  split at e
  · rename_i l' e'
    cases e
    have := rdP_ok M e' r
    cases this with
    | lst hz h t => exact ⟨_, _, rfl, h, t, hz⟩
  · cases e
theorem sortS_uniq {le : α → α → Bool} (anti : ∀ a b, le a b = true → le b a = true → a = b) : ∀ {l r : List α}, l.Perm r → l.Pairwise (fun a b => le a b = true) → r.Pairwise (fun a b => le a b = true) → l = r
  | [], r, p, _, _ => by rw [List.nil_perm.mp p]
  | a :: l, [], p, _, _ => by cases (List.perm_nil.mp p)
  | a :: l, b :: r, p, hl, hr => by
    rw [List.pairwise_cons] at hl hr
    have e : a = b := by
      have h1 : a ∈ b :: r := p.mem_iff.mp List.mem_cons_self
      have h2 : b ∈ a :: l := p.mem_iff.mpr List.mem_cons_self
      rcases List.mem_cons.mp h1 with q | q
      · exact q
      · rcases List.mem_cons.mp h2 with q2 | q2
        · exact q2.symm
        · exact anti _ _ (hl.1 _ q2) (hr.1 _ q)
    subst e
    rw [sortS_uniq anti (List.Perm.cons_inv p) hl.2 hr.2]
theorem leS_eq (a b : Str) : leS a b = !ltCps b.cps.toList a.cps.toList := by
  unfold leS
  rw [ltCps_eq]
theorem leS_iff {a b : Str} : leS a b = true ↔ ¬ b.cps.toList < a.cps.toList := by
  unfold leS
  simp
theorem leS_trans (a b c : Str) (h1 : leS a b = true) (h2 : leS b c = true) : leS a c = true := by
  rw [leS_iff] at *
  exact List.le_trans (show a.cps.toList ≤ b.cps.toList from h1) (show b.cps.toList ≤ c.cps.toList from h2)
theorem leS_total (a b : Str) : (leS a b || leS b a) = true := by
  rw [Bool.or_eq_true, leS_iff, leS_iff]
  exact List.le_total a.cps.toList b.cps.toList
theorem leS_anti (a b : Str) (h1 : leS a b = true) (h2 : leS b a = true) : a = b := by
  rw [leS_iff] at *
  have h1 : a.cps.toList ≤ b.cps.toList := h1
  have h2 : b.cps.toList ≤ a.cps.toList := h2
  have e := List.le_antisymm h1 h2
  cases a with | mk a => cases b with | mk b => exact congrArg Str.mk (by simpa using e)
theorem rising_pw : ∀ {l : List Str} {p : Str}, risingS p l = true → (p :: l).Pairwise (fun a b => leS a b = true)
  | [], p, _ => List.pairwise_singleton _ _
  | x :: r, p, h => by
    unfold risingS at h
    rw [Bool.and_eq_true, ← leS_eq] at h
    have ih := rising_pw h.2
    refine List.pairwise_cons.mpr ⟨fun y hy => ?_, ih⟩
    rcases List.mem_cons.mp hy with q | q
    · rw [q]; exact h.1
    · exact leS_trans _ _ _ h.1 ((List.pairwise_cons.mp ih).1 y q)
theorem sortedS_pw : ∀ {l : List Str}, PyProof.Rows.sortedS l = true → l.Pairwise (fun a b => leS a b = true)
  | [], _ => .nil
  | x :: r, h => rising_pw h
theorem sortS_is {l r : List Str} (p : r.Perm l) (h : PyProof.Rows.sortedS r = true) : r = sortS l :=
  sortS_uniq leS_anti (p.trans (List.mergeSort_perm l leS).symm) (sortedS_pw h) (List.pairwise_mergeSort leS_trans leS_total l)
theorem sortI_is {l r : List Int} (p : r.Perm l) (h : r.Pairwise (· ≤ ·)) : r = sortI l :=
  sortS_uniq (le := fun a b => decide (a ≤ b)) (fun a b h1 h2 => Int.le_antisymm (of_decide_eq_true h1) (of_decide_eq_true h2)) (p.trans (List.mergeSort_perm l _).symm) (h.imp fun {a b} q => decide_eq_true q)
    (List.pairwise_mergeSort (le := fun a b => decide (a ≤ b)) (fun a b c h1 h2 => decide_eq_true (Int.le_trans (of_decide_eq_true h1) (of_decide_eq_true h2))) (fun a b => by simp [Int.le_total]) l)
theorem sortS_rp {ss : List Str} (hs : ∀ s ∈ ss, s.length ≤ sizeLine) : RPs g F ((sortS ss).map P.str) ((sortS ss).map V.str) := RPs.ofStrs fun s h => hs s (List.mem_mergeSort.mp h)
theorem sorted_ok (hc : X.calm = true) : CallR X (.builtin "sorted") (rdN g (bclS .sorted)) := by
  rintro pins s σ H xs us Q I r ⟨ds, m, ρ, F, E, M, rs, h⟩
  match ds, xs, rs with
  | [], _, _ => exact h.elim
  | _ :: _ :: _, _, _ => exact h.elim
  | [d], [x], rs =>
    have hd := rs.1
    have h : PostD g ρ F m H (sortedS d m) Q E := h
    unfold sortedS at h
    split at h
    · split at h
      · rename_i ss es
        split at h
        · rename_i hz
          cases hd with
          | dK hl h1 t =>
            have ts := keys_rp t
            rw [strsP_eq es] at ts
            have kk : ∀ {l : List (P × P)} {kvs : List (Key × V)}, RPk g F l kvs → ∀ {ss : List Str}, strsP (l.map (·.1)) = some ss → kvs.map (·.1) = ss.map Sum.inr := by
              intro l kvs z
              induction l generalizing kvs with
              | nil => intro ss e; cases z; cases e; rfl
              | cons a l ih =>
                intro ss e
                cases z with
                | cons hk ho hx z =>
                  have e' := strsP_eq e
                  cases ss with
                  | nil => cases e'
                  | cons s ss =>
                    rw [List.map_cons, List.map_cons] at e'
                    injection e' with e1 e2
                    dsimp only at e1
                    rw [e1] at hk
                    cases hk
                    rw [List.map_cons, List.map_cons, ih z (ss := ss) (by rw [e2]; exact strsP_map ss)]
            refine call_sortedD hc pins s σ H _ us Q I r ⟨_, _, ss, rfl, .inr ⟨_, M.sub.frz h1⟩, kk t es, hz, fun ys p pm so hp => ?_⟩
            rw [sortS_is pm so]
            exact h.newLst (by rw [List.length_map]; show (sortS ss).length ≤ _; unfold sortS; rw [List.length_mergeSort, PySem.sizeLine_eq]; omega) M (sortS_rp ts.strLens) hp
        · exact h.elim
      · exact h.elim
    · split at h
      · rename_i l e
        obtain ⟨a, vs, rfl, h1, t, hl⟩ := lstP_ok M e hd
        split at h
        · rename_i ss es
          split at h
          · rename_i hz
            rw [strsP_eq es] at t
            have e2 := t.strs
            subst e2
            refine cr_sortedS pins s σ H _ us Q I r ⟨a, ss, rfl, SqL.of h1, hz, fun ys p pm so hp => ?_⟩
            rw [sortS_is pm so]
            exact h.newLst (by rw [List.length_map]; unfold sortS; rw [List.length_mergeSort, PySem.sizeLine_eq]; omega) M (sortS_rp t.strLens) hp
          · exact h.elim
        · split at h
          · rename_i ns en
            rw [intsP_eq en] at t hl
            have e2 := t.ints
            subst e2
            refine cr_sortedI pins s σ H _ us Q I r ⟨a, ns, rfl, SqL.of h1, fun ys p pm so hp => ?_⟩
            rw [sortI_is pm so]
            exact h.newLst (by rw [List.length_map] at hl ⊢; unfold sortI; rw [List.length_mergeSort]; exact hl) M (RPs.ofInts _) hp
          · exact h.elim
      · split at h
        · rename_i ss es
          obtain ⟨ks, ek, es⟩ := Option.bind_eq_some_iff.mp es
          split at h
          · rename_i hz
            obtain ⟨a, kvs, rfl, h1, hl, hz2, r1⟩ := dctK_ok M ek hd
            have e0 := strsP_eq es
            subst e0
            have t := RPs.of r1
            have e2 := t.strs
            have kk : ∀ {kvs : List (Key × V)} {ss : List Str}, kvs.map (fun kv => kV kv.1) = ss.map V.str → kvs.map (·.1) = ss.map Sum.inr := by
              intro kvs
              induction kvs with
              | nil => intro ss e; cases ss with
                | nil => rfl
                | cons s ss => cases e
              | cons kv kvs ih =>
                intro ss e
                cases ss with
                | nil => cases e
                | cons s ss =>
                  rw [List.map_cons, List.map_cons] at e
                  injection e with e1 e2
                  rw [List.map_cons, List.map_cons, ih e2]
                  obtain ⟨k, v⟩ := kv
                  cases k with
                  | inl i => cases e1
                  | inr z => cases e1; rfl
            refine call_sortedD hc pins s σ H _ us Q I r ⟨_, _, ss, rfl, .inl h1, kk e2, hz, fun ys p pm so hp => ?_⟩
            rw [sortS_is pm so]
            exact h.newLst (by rw [List.length_map]; show (sortS ss).length ≤ _; unfold sortS; rw [List.length_mergeSort, PySem.sizeLine_eq]; omega) M (sortS_rp t.strLens) hp
          · exact h.elim
        · exact h.elim
theorem maxI_uniq : ∀ {l : List Int} {m : Int}, l ≠ [] → m ∈ l → (∀ y ∈ l, y ≤ m) → m = maxI l
  | [a], m, _, h, _ => by simpa [maxI] using h
  | a :: b :: l, m, _, h, k => by
    show m = max a (maxI (b :: l))
    rcases List.mem_cons.mp h with q | q
    · subst q
      have : maxI (b :: l) ≤ m := by
        have : ∀ (l : List Int), l ≠ [] → maxI l ∈ l := by
          intro l
          induction l with
          | nil => intro z; exact absurd rfl z
          | cons a l ih =>
            intro _
            cases l with
            | nil => simp [maxI]
            | cons b l =>
              show max a (maxI (b :: l)) ∈ _
              rcases Int.le_total a (maxI (b :: l)) with q | q
              · rw [Int.max_eq_right q]; exact List.mem_cons_of_mem _ (ih (by simp))
              · rw [Int.max_eq_left q]; exact List.mem_cons_self
        exact k _ (List.mem_cons_of_mem _ (this _ (by simp)))
      rw [Int.max_eq_left this]
    · have e := maxI_uniq (l := b :: l) (by simp) q fun y hy => k y (List.mem_cons_of_mem _ hy)
      rw [← e, Int.max_eq_right (k a List.mem_cons_self)]
theorem minI_uniq : ∀ {l : List Int} {m : Int}, l ≠ [] → m ∈ l → (∀ y ∈ l, m ≤ y) → m = minI l
  | [a], m, _, h, _ => by simpa [minI] using h
  | a :: b :: l, m, _, h, k => by
    show m = min a (minI (b :: l))
    rcases List.mem_cons.mp h with q | q
    · subst q
      have : m ≤ minI (b :: l) := by
        have : ∀ (l : List Int), l ≠ [] → minI l ∈ l := by
          intro l
          induction l with
          | nil => intro z; exact absurd rfl z
          | cons a l ih =>
            intro _
            cases l with
            | nil => simp [minI]
            | cons b l =>
              show min a (minI (b :: l)) ∈ _
              rcases Int.le_total a (minI (b :: l)) with q | q
              · rw [Int.min_eq_left q]; exact List.mem_cons_self
              · rw [Int.min_eq_right q]; exact List.mem_cons_of_mem _ (ih (by simp))
        exact k _ (List.mem_cons_of_mem _ (this _ (by simp)))
      rw [Int.min_eq_left this]
    · have e := minI_uniq (l := b :: l) (by simp) q fun y hy => k y (List.mem_cons_of_mem _ hy)
      rw [← e, Int.min_eq_right (k a List.mem_cons_self)]
theorem mm_ok {big : Bool} (M : MRel g ρ F m H) {d : D} {v : V} (h : PostD g ρ F m H (mmS big d m) Q E) (r : RD g ρ F m.length d v) : ∃ a ns, v = .ref a ∧ SqL X.K H a (ns.map V.int) ∧ 0 < ns.length ∧ Q (.int (if big then maxI ns else minI ns)) H ∧ ns ≠ [] := by
  unfold mmS at h
  split at h
  · rename_i l e
    obtain ⟨a, vs, rfl, h1, t, hl⟩ := lstP_ok M e r
    split at h
    · rename_i ns en
      rw [intsP_eq en] at t
      have e2 := t.ints
      subst e2
      split at h
      · exact h.elim
      · rename_i hz
        exact ⟨a, ns, rfl, SqL.of h1, List.length_pos_iff.mpr hz, h.val M (RP.int _), hz⟩
    · exact h.elim
  · exact h.elim
theorem min_ok (hc : X.calm = true) : CallR X (.builtin "min") (rdN g (bclS .min)) := by
  rintro pins s σ H xs us Q I r ⟨ds, m, ρ, F, E, M, rs, h⟩
  have h : PostD g ρ F m H (minS ds m) Q E := h
  unfold minS at h
  split at h
  · match xs, rs with
    | [x, y], rs =>
      cases rs.1
      cases rs.2.1
      exact call_min2 hc pins s σ H _ us Q I r ⟨_, _, rfl, h.val M (RP.int _)⟩
  · match xs, rs with
    | [x], rs =>
      obtain ⟨a, ns, rfl, h1, h2, q, hz⟩ := mm_ok (X := X) M h rs.1
      refine cr_min hc pins s σ H _ us Q I r ⟨a, ns, rfl, h1, h2, fun k k1 k2 => ?_⟩
      rw [minI_uniq hz k1 k2]
      exact q
  · exact h.elim
theorem max_ok (hc : X.calm = true) : CallR X (.builtin "max") (rdN g (bclS .max)) := by
  rintro pins s σ H xs us Q I r ⟨ds, m, ρ, F, E, M, rs, h⟩
  have h : PostD g ρ F m H (maxS ds m) Q E := h
  unfold maxS at h
  split at h
  · match xs, rs with
    | [x, y], rs =>
      cases rs.1
      cases rs.2.1
      exact call_max2 hc pins s σ H _ us Q I r ⟨_, _, rfl, h.val M (RP.int _)⟩
  · match xs, rs with
    | [x], rs =>
      obtain ⟨a, ns, rfl, h1, h2, q, hz⟩ := mm_ok (X := X) M h rs.1
      refine cr_max hc pins s σ H _ us Q I r ⟨a, ns, rfl, h1, h2, fun k k1 k2 => ?_⟩
      rw [maxI_uniq hz k1 k2]
      exact q
  · exact h.elim
def bfN : BF → String
  | .len => "len" | .int => "int" | .abs => "abs" | .list => "list" | .listM => "list" | .tuple => "tuple" | .all => "all" | .any => "any" | .sum => "sum" | .str => "str" | .repr => "repr" | .sorted => "sorted" | .min => "min" | .max => "max"
def bfT : BF → Bool
  | .int => true | .list => true | .listM => true | .tuple => true | .str => true | _ => false
def bfV (f : BF) : Value := if bfT f then .type (bfN f) else .builtin (bfN f)
theorem rdN_imp {v : Value} {sem sem' : List D → Mem → R D} (h : CallR X v (rdN g sem)) (k : ∀ l m, sem' l m = sem l m) : CallR X v (rdN g sem') := by
  have : sem' = sem := by funext l m; exact k l m
  rw [this]; exact h
theorem bcl_ok (hK : X.K = g.K) (hc : X.calm = true) (f : BF) : CallR X (bfV f) (rdN g (bclS f)) := by
  cases f with
  | len => exact len_ok hK
  | int => exact int_ok
  | abs => exact abs_ok
  | list => exact rdN_imp (list_ok hK hc false) fun l m => by unfold bclS; rfl
  | listM => exact rdN_imp (list_ok hK hc true) fun l m => by unfold bclS; rfl
  | tuple => exact tuple_ok hK
  | all => exact all_ok hc
  | any => exact any_ok hc
  | sum => exact sum_ok hc
  | str => exact str_ok
  | repr =>
    rintro pins s σ H xs us Q I r ⟨ds, m, ρ, F, E, M, rs, h⟩
    have h : PostD g ρ F m H (bcl1 .repr ds m) Q E := h
    unfold bcl1 at h
    split at h <;> exact h.elim
  | sorted => exact sorted_ok hc
  | min => exact min_ok hc
  | max => exact max_ok hc

/-! ### methods -/
theorem seqP_ok (M : MRel g ρ F m H) {d : D} {l : List P} {v : V} (e : seqP m d = some l) (r : RD g ρ F m.length d v) : ∃ a vs, v = .ref a ∧ RPs g F l vs ∧ (H a = some (.lst vs) ∨ SqT g.K H a vs) := by
  unfold seqP at e
  split at e
  · rename_i ds es
    obtain ⟨a, vs, _, rfl, r1, q⟩ := seqD_ok M es r
    rw [allP_eq e] at r1
    exact ⟨a, vs, rfl, RPs.of r1, q.imp (·.1) (·.1)⟩
  · cases e
theorem joinL_len (S : List Nat) : ∀ ps : List (List Nat), (TL.joinL S ps).length = (ps.map List.length).sum + (ps.length - 1) * S.length
  | [] => by simp [TL.joinL]
  | [p] => by simp [TL.joinL]
  | p :: q :: r => by
    have ih := joinL_len S (q :: r)
    show (p ++ (S ++ TL.joinL S (q :: r))).length = _
    rw [List.length_append, List.length_append, ih]
    simp only [List.map_cons, List.sum_cons, List.length_cons, Nat.add_sub_cancel]
    rw [Nat.add_mul]
    omega
theorem str_len (s : Str) : s.length = (TL.tl s).length := (Array.length_toList).symm
theorem tl_lens (ss : List Str) : (ss.map TL.tl).map List.length = ss.map Str.length := by
  rw [List.map_map]
  exact List.map_congr_left fun s _ => (str_len s).symm
theorem join_len (s : Str) (ss : List Str) : (Str.join s ss).length = (ss.map Str.length).sum + (ss.length - 1) * s.length := by
  rw [str_len, TL.tl_join, joinL_len, tl_lens, List.length_map, ← str_len]
theorem join_le {s : Str} {ss : List Str} (h : (ss.map Str.length).sum + ss.length * s.length ≤ 16777216) : (Txt.join s ss).length ≤ sizeLine := by
  rw [TL.join_eq, join_len, PySem.sizeLine_eq]
  exact Nat.le_trans (Nat.add_le_add_left (Nat.mul_le_mul_right _ (Nat.sub_le _ _)) _) h
theorem mem_le_sum : ∀ {l : List Nat} {n : Nat}, n ∈ l → n ≤ l.sum
  | m :: l, n, h => by
    rw [List.sum_cons]
    rcases List.mem_cons.mp h with rfl | h
    · omega
    · have := mem_le_sum h
      omega
theorem split_len {x y : Str} (hy : (y.length == 0) = false) : (∀ p ∈ Txt.split x y, p.length ≤ x.length) ∧ (Txt.split x y).length ≤ x.length + 1 := by
  have e := join_len y (Txt.split x y)
  rw [PySem.StrLaws.join_split] at e
  have hy' : 1 ≤ y.length := by
    have : y.length ≠ 0 := by simpa using hy
    omega
  refine ⟨fun p hp => ?_, ?_⟩
  · have := mem_le_sum (List.mem_map.mpr ⟨p, hp, rfl⟩ : p.length ∈ (Txt.split x y).map Str.length)
    omega
  · have : (Txt.split x y).length - 1 ≤ ((Txt.split x y).length - 1) * y.length := Nat.le_mul_of_pos_right _ hy'
    omega
theorem split_ok : MtR X "str.split" (rdM g (bmtS .split)) := by
  rintro pins s σ H x xs v us Q I rx rs ⟨d, ds, m, ρ, F, E, M, hd, hs, h⟩
  have h : PostD g ρ F m H (splitS d ds m) Q E := h
  unfold splitS at h
  split at h
  · rename_i z t
    cases hd
    match xs, hs with
    | [y], hs =>
      cases hs.1
      split at h
      · rename_i hz
        refine mt_split pins s σ H _ _ v us Q I rx rs ⟨_, _, rfl, rfl, hz.1, hz.2, fun p hp => ?_⟩
        exact h.newLst (Nat.le_trans (Nat.le_of_eq (List.length_map ..)) (Nat.le_trans (split_len hz.1).2 (Nat.le_trans (Nat.le_succ _) hz.2))) M (RPs.ofStrs fun s hs => Nat.le_trans ((split_len hz.1).1 s hs) (Nat.le_trans (Nat.le_add_right _ 2) hz.2)) hp
      · exact h.elim
  · exact h.elim
theorem reverse_ok : MtR X "list.reverse" (rdM g (bmtS .reverse)) := by
  rintro pins s σ H x xs v us Q I rx rs ⟨d, ds, m, ρ, F, E, M, hd, hs, h⟩
  have h : PostD g ρ F m H (reverseS d ds m) Q E := h
  unfold reverseS at h
  split at h
  · match xs, hs with
    | [], _ =>
      split at h
      · rename_i l e
        have hz := M.line (get_some e)
        obtain ⟨ho, rfl, h1, h2⟩ := M.look e hd
        obtain ⟨vs, rfl, h3⟩ := rmo_lst h2
        obtain ⟨x1, M1⟩ := step_put (o' := .lst l.reverse) (ho := .lst vs.reverse) M (get_some e) ⟨by rw [List.length_reverse]; exact hz, h3.rev⟩
        exact mt_reverse pins s σ H _ _ v us Q I rx rs ⟨_, _, rfl, rfl, h1, h _ _ _ _ x1 M1 RP.non⟩
      · exact h.elim
  · exact h.elim
theorem clear_ok : MtR X "list.clear" (rdM g (bmtS .clear)) := by
  rintro pins s σ H x xs v us Q I rx rs ⟨d, ds, m, ρ, F, E, M, hd, hs, h⟩
  have h : PostD g ρ F m H (clearS d ds m) Q E := h
  unfold clearS at h
  split at h
  · match xs, hs with
    | [], _ =>
      split at h
      · rename_i l e
        obtain ⟨ho, rfl, h1, h2⟩ := M.look e hd
        obtain ⟨vs, rfl, h3⟩ := rmo_lst h2
        obtain ⟨x1, M1⟩ := step_put (o' := .lst []) (ho := .lst []) M (get_some e) ⟨Nat.zero_le _, trivial⟩
        exact mt_clear pins s σ H _ _ v us Q I rx rs ⟨_, _, rfl, rfl, h1, h _ _ _ _ x1 M1 RP.non⟩
      · exact h.elim
  · exact h.elim
theorem join_ok (hK : X.K = g.K) : MtR X "str.join" (rdM g (bmtS .join)) := by
  rintro pins s σ H x xs v us Q I rx rs ⟨d, ds, m, ρ, F, E, M, hd, hs, h⟩
  have h : PostD g ρ F m H (joinS d ds m) Q E := h
  unfold joinS at h
  split at h
  · rename_i z b
    cases hd
    match xs, hs with
    | [y], hs =>
      split at h
      · rename_i ss es
        split at h
        · rename_i hz
          obtain ⟨l, e1, e2⟩ := Option.bind_eq_some_iff.mp es
          obtain ⟨a, vs, rfl, r1, q⟩ := seqP_ok M e1 hs.1
          rw [strsP_eq e2] at r1
          rw [r1.strs] at q
          exact mt_join pins s σ H _ _ v us Q I rx rs ⟨_, a, ss, rfl, rfl, by rw [hK]; exact q.imp SqL.of (fun z => z), hz, h.val M (RP.str _ (join_le hz))⟩
        · exact h.elim
      · exact h.elim
  · exact h.elim
theorem append_ok : MtR X "list.append" (rdM g (bmtS .append)) := by
  rintro pins s σ H x xs v us Q I rx rs ⟨d, ds, m, ρ, F, E, M, hd, hs, h⟩
  have h : PostD g ρ F m H (appendS d ds m) Q E := h
  cases d with
  | p y => exact h.elim
  | ref n =>
    match ds, xs, hs with
    | [], _, _ => exact h.elim
    | _ :: _ :: _, _, _ => exact h.elim
    | [y], [y'], hs =>
      unfold appendS at h
      simp only at h
      split at h
      · rename_i l e
        split at h
        · rename_i hz
          obtain ⟨ho, rfl, h1, h2⟩ := M.look e hd
          obtain ⟨vs, rfl, h3⟩ := rmo_lst h2
          obtain ⟨x1, M1⟩ := step_put (o' := .lst (l ++ [y])) (ho := .lst (vs ++ [y'])) M (get_some e) ⟨by rw [List.length_append, List.length_singleton]; exact hz, h3.append ⟨hs.1, trivial⟩⟩
          exact mt_append pins s σ H _ _ v us Q I rx rs ⟨_, _, _, rfl, rfl, h1, by rw [← h3.length]; exact hz, h _ _ _ _ x1 M1 RP.non⟩
        · exact h.elim
      · exact h.elim
def rdI (g : Gn) : V → V → V → Hp → (Hp → Prop) → Prop := fun o i v H Q => ∃ d e y m ρ F E, MRel g ρ F m H ∧ RD g ρ F m.length d o ∧ RD g ρ F m.length e i ∧ RD g ρ F m.length y v ∧ Post g (fun _ _ _ (_ : Unit) (_ : Unit) => True) ρ F m H (isetS d e y m) (fun _ => Q) E
theorem iset_ok (hu : X.A.units + 65 < cLine) : PSet X (rdI g) := by
  rintro pins s σ H o i v ov iv u Q I ro ri rv ⟨d, e, y, m, ρ, F, E, M, hd, he, hy, h⟩
  unfold isetS at h
  split at h
  · rename_i n k
    cases he
    split at h
    · rename_i l el
      split at h
      · rename_i j ej
        obtain ⟨ho, rfl, h1, h2⟩ := M.look el hd
        obtain ⟨vs, rfl, h3⟩ := rmo_lst h2
        obtain ⟨x1, M1⟩ := step_put (o' := .lst (l.set j y)) (ho := .lst (vs.set j v)) M (get_some el) ⟨by rw [List.length_set]; exact M.line (get_some el), h3.set hy j⟩
        exact set_list pins s σ H _ _ v ov iv u Q I ro ri rv ⟨_, _, _, j, rfl, rfl, h1, by rw [← h3.length]; exact ej, h () _ _ _ x1 M1 trivial⟩
      · exact h.elim
    · obtain ⟨a, H', rfl, dp, q⟩ := dctW_ok M hd (RP.int _) hy h
      cases (show ov = Value.ref a from ro)
      exact d_setItem (by omega) I dp ri rv fun s' I' => ⟨H', I', q⟩
  · obtain ⟨a, H', rfl, dp, q⟩ := dctW_ok M hd he hy h
    cases (show ov = Value.ref a from ro)
    exact d_setItem (by omega) I dp ri rv fun s' I' => ⟨H', I', q⟩
  · exact h.elim
end
end Dn

/-! Dn, part GA: an own ==, and != by it. -/
namespace Dn
open PySem PySem.Spec PyProof.Rows L2
section
variable {prog : Program} {w : World} {A : Around} {E : Value → Shared → Prop} {s : Shared} {K : PySem.W.Frag} {x C f : Addr} {ox : Obj} {od : Option Obj} {b tb : Value}
theorem sub_bt {t : String} (h : t ∈ bts) : PySem.W.subIn K (.type t) (.ref C) = some false := by
  have k : ∀ t ∈ bts, ∃ l : List String, fastBuiltinMro t = some (l.map Value.type) := by
    intro t ht
    simp only [bts, List.mem_cons, List.not_mem_nil, or_false] at ht
    rcases ht with rfl | rfl | rfl | rfl | rfl | rfl | rfl
    · exact ⟨["NoneType", "object"], by decide +kernel⟩
    · exact ⟨["bool", "int", "object"], by decide +kernel⟩
    · exact ⟨["int", "object"], by decide +kernel⟩
    · exact ⟨["str", "object"], by decide +kernel⟩
    · exact ⟨["list", "object"], by decide +kernel⟩
    · exact ⟨["tuple", "object"], by decide +kernel⟩
    · exact ⟨["dict", "object"], by decide +kernel⟩
  obtain ⟨l, e⟩ := k t h
  show (fastBuiltinMro t).map (·.contains (.ref C)) = some false
  rw [e, Option.map_some]
  congr 1
  clear e
  induction l with
  | nil => rfl
  | cons a l ih => rw [List.map_cons, List.contains_cons, ih]; rfl
theorem notFirst_bt {t : String} (h : t ∈ bts) : PySem.W.notFirst K C (.type t) = true := by
  unfold PySem.W.notFirst
  rw [sub_bt h]
  simp
theorem entry_ne {Q : Fin → Shared → Prop} (hu : A.units < cLine) (X : K.In s.heap) (I : PySem.W.InstAt s.heap x ox C od) (hs : PySem.W.findIn K (.ref C) "__eq__" = some (some (.ref f))) (hf : PySem.W.isFn K (.ref f) = true)
    (h : wpAny (model prog w) A (call (.ref f) [.ref x, b]) (fun v s' => ∃ k, v = .bool k ∧ Q (.done (.ret (.bool (!k)))) s') E s) : wpAny (model prog w) A (Builtin.«object.__ne__» ⟨[.ref x, b], []⟩) Q E s := by
  unfold Builtin.«object.__ne__»
  repeat (first
    | with_reducible refine wpAny_cRoomFor hu ?_
    | (refine wpAny_bind (m := callSpecialIfBound? (.ref x) (Str.ofString "__eq__") [b])
        (PySem.W.ifBound_K X I hs hf (wpAny_mono h (fun r s' hr => by
          obtain ⟨k, rfl, hq⟩ := hr
          repeat (first | exact hq | exact wpAny_pure hq | exact wpAny_truthy_bool hq | (refine wpAny_bind (m := truthy (.bool _)) (wpAny_truthy_bool ?_)) | wp_step)) fun _ _ e => e)))
    | wp_step)
theorem ifBound_objNe {M : Model} {args : List Value} {Q : Option Value → Shared → Prop} (X : K.In s.heap) (I : PySem.W.InstAt s.heap x ox C od) (hs : PySem.W.findIn K (.ref C) "__ne__" = some (some (.builtin "object.__ne__")))
    (h : wpAny M A (call (.builtin "object.__ne__") (.ref x :: args)) (fun v => Q (some v)) E s) : wpAny M A (callSpecialIfBound? (.ref x) "__ne__" args) Q E s := by
  simp only [callSpecialIfBound?, bindSpecialIfBound?]
  refine wpAny_holding (wpAny_bind (wpAny_bind (wpAny_bind (I.type.here ((PySem.W.looks_findIn X hs).here ?_)))))
  refine wpAny_bind (wpAny_askSetting (wpAny_ite ?_))
  have fin : wpAny M A (call (.builtin "object.__ne__") ([.ref x] ++ args) >>= fun v => pure (some v)) Q E s := wpAny_bind (wpAny_mono h (fun v s' h' => wpAny_pure h') fun _ _ h' => h')
  split
  · exact wpAny_bind (wpAny_of_eq (F.cmp_object.ne.bind _) (wpAny_pure (by exact fin)))
  · exact wpAny_tryCatch (wpAny_bind (wpAny_of_eq (F.cmp_object.ne.bind _) (wpAny_pure (by exact fin))))
theorem ne_K {Q : Value → Shared → Prop} (hu : A.units + 1 < cLine) (X : K.In s.heap) (I : PySem.W.InstAt s.heap x ox C od) (hb : PySem.W.Looks (model prog w) s.heap (typeOf b) tb) (hn : PySem.W.notFirst K C tb = true)
    (hm : PySem.W.mroIn K C (.type "object") = some true)
    (hne : PySem.W.findIn K (.ref C) "__ne__" = some (some (.builtin "object.__ne__"))) (hs : PySem.W.findIn K (.ref C) "__eq__" = some (some (.ref f))) (hf : PySem.W.isFn K (.ref f) = true)
    (h : wpAny (model prog w) A.in1 (call (.ref f) [.ref x, b]) (fun v s' => ∃ k, v = .bool k ∧ Q (.bool (!k)) s') E s) : wpAny (model prog w) A (richCompare .NotEq (.ref x) b) Q E s := by
  have one : wpAny (model prog w) A (tryCompare (.ref x) "__ne__" b) (fun r s' => ∃ v, r = some v ∧ Q v s') E s := by
    unfold tryCompare
    refine wpAny_bind (ifBound_objNe X I hne (wpAny_call (codeAny_call_builtin F.cmp_object.ne.plain F.cmpEntry_ne (PySem.W.check_slot F.cmpKind_ne F.cmpSplit_ne (I.type.andThen (PySem.W.looks_mroIn X hm)) (F.cmpArgs_ne _ _) (entry_ne (A := A.in1) hu X I hs hf (wpAny_mono h (fun v s' hv => ?_) fun _ _ e => e))))))
    obtain ⟨k, rfl, hq⟩ := hv
    first | exact ⟨k, rfl, wpAny_pure ⟨_, rfl, hq⟩⟩ | exact ⟨k, rfl, wpAny_pure (wpAny_pure ⟨_, rfl, hq⟩)⟩ | exact ⟨k, rfl, ⟨_, rfl, hq⟩⟩
  unfold richCompare
  simp only [oneThing_ref]
  refine wpAny_holding (wpAny_bind (wpAny_cRoomFor (Nat.lt_of_succ_lt hu) ?_))
  rw [cmpInfo_NotEq]
  dsimp only
  refine wpAny_bind (I.type.here (wpAny_bind (hb.here ?_)))
  split
  · rename_i q
    have e : PySem.W.subIn K tb (.ref C) = some false := by
      rcases Bool.or_eq_true_iff.mp hn with e | e
      · rw [beq_iff_eq.mp e] at q; simp at q
      · exact beq_iff_eq.mp e
    refine wpAny_bind ((PySem.W.looks_subIn X e).here ?_)
    simp only [Bool.false_eq_true, if_false]
    refine wpAny_bind (wpAny_mono one (fun r s' z => ?_) fun _ _ e => e)
    obtain ⟨v, rfl, hq⟩ := z
    exact wpAny_pure hq
  · refine wpAny_bind (wpAny_pure ?_)
    simp only [Bool.false_eq_true, if_false]
    refine wpAny_bind (wpAny_mono one (fun r s' z => ?_) fun _ _ e => e)
    obtain ⟨v, rfl, hq⟩ := z
    exact wpAny_pure hq
end
end Dn

/-! Dn, part H: the judgement, the check of expressions, the plain cases. -/
namespace Dn
open PySem PySem.Spec PyProof.Rows L2

/-! ### results in a row -/
theorem Post.bind {α β γ δ : Type} {g : Gn} {rel : Rho → Hp → Nat → α → γ → Prop} {rel2 : Rho → Hp → Nat → β → δ → Prop} {ρ : Rho} {F : Hp} {m : Mem} {H : Hp} {r : R α} {f : α → Mem → R β} {Q : δ → Hp → Prop} {Q1 : γ → Hp → Prop} {E : XK}
    (h : Post g rel2 ρ F m H (r.bind f) Q E)
    (k : ∀ d m' v H' ρ' F', Ext ρ F m H ρ' F' m' H' → MRel g ρ' F' m' H' → rel ρ' F' m'.length d v → Post g rel2 ρ' F' m' H' (f d m') Q E → Q1 v H') : Post g rel ρ F m H r Q1 E := by
  cases r with
  | ok d m' => exact fun v H' ρ' F' x M r => k d m' v H' ρ' F' x M r (Post.on x h)
  | ex x m' => exact h
  | no => exact h.elim
theorem Post.bindE {α β γ δ : Type} {g : Gn} {rel : Rho → Hp → Nat → α → γ → Prop} {rel2 : Rho → Hp → Nat → β → δ → Prop} {ρ : Rho} {F : Hp} {m : Mem} {H : Hp} {r : R α} {f : α → Mem → R β} {Q : δ → Hp → Prop} {Q1 : γ → Hp → Prop} {E : XK}
    (h : Post g rel2 ρ F m H (r.bind f) Q E)
    (k : ∀ d m', r = .ok d m' → ∀ v H' ρ' F', Ext ρ F m H ρ' F' m' H' → MRel g ρ' F' m' H' → rel ρ' F' m'.length d v → Post g rel2 ρ' F' m' H' (f d m') Q E → Q1 v H') : Post g rel ρ F m H r Q1 E := by
  cases r with
  | ok d m' => exact fun v H' ρ' F' x M r => k d m' rfl v H' ρ' F' x M r (Post.on x h)
  | ex x m' => exact h
  | no => exact h.elim
theorem Post.map {α γ δ : Type} {g : Gn} {rel : Rho → Hp → Nat → α → γ → Prop} {rel2 : Rho → Hp → Nat → α → δ → Prop} {ρ : Rho} {F : Hp} {m : Mem} {H : Hp} {r : R α} {Q : δ → Hp → Prop} {Q1 : γ → Hp → Prop} {E : XK}
    (h : Post g rel2 ρ F m H r Q E)
    (k : ∀ d m' v H' ρ' F', Ext ρ F m H ρ' F' m' H' → MRel g ρ' F' m' H' → rel ρ' F' m'.length d v → Post g rel2 ρ' F' m' H' (.ok d m') Q E → Q1 v H') : Post g rel ρ F m H r Q1 E := by
  cases r with
  | ok d m' => exact fun v H' ρ' F' x M r => k d m' v H' ρ' F' x M r (Post.on x h)
  | ex x m' => exact h
  | no => exact h.elim
theorem Post.imp {α γ : Type} {g : Gn} {rel : Rho → Hp → Nat → α → γ → Prop} {ρ : Rho} {F : Hp} {m : Mem} {H : Hp} {r : R α} {Q Q1 : γ → Hp → Prop} {E : XK} (h : Post g rel ρ F m H r Q E) (k : ∀ v H', Q v H' → Q1 v H') : Post g rel ρ F m H r Q1 E := by
  cases r with
  | ok d m' => exact fun v H' ρ' F' x M r => k _ _ (h v H' ρ' F' x M r)
  | ex x m' => exact h
  | no => exact h.elim
theorem _root_.L2.PE.imp {X : Cx} {e : Expr} {t t' : TE} (h : PE X e t) (k : ∀ σ H Q, t' σ H Q → t σ H Q) : PE X e t' := ⟨fun pins s σ H Q I q => h.run pins s σ H Q I (k σ H Q q)⟩
theorem _root_.L2.PT.imp {X : Cx} {e : Expr} {t t' : TT} (h : PT X e t) (k : ∀ σ H Q, t' σ H Q → t σ H Q) : PT X e t' := ⟨fun pins s σ H Q I q => h.run pins s σ H Q I (k σ H Q q)⟩
theorem _root_.L2.PA.imp {X : Cx} {e : List Expr} {t t' : TA} (h : PA X e t) (k : ∀ σ H Q, t' σ H Q → t σ H Q) : PA X e t' := ⟨fun pos pins s σ H Q I q => h.run pos pins s σ H Q I (k σ H Q q)⟩
theorem _root_.L2.PO.imp {X : Cx} {e : Option Expr} {t t' : L2.TO} (h : L2.PO X e t) (k : ∀ σ H Q, t' σ H Q → t σ H Q) : L2.PO X e t' := ⟨fun pins s σ H Q I q => h.run pins s σ H Q I (k σ H Q q)⟩
theorem _root_.L2.PI.imp {X : Cx} {tg iter : Expr} {t t' : TI} (h : PI X tg iter t) (k : ∀ σ H Q, t' σ H Q → t σ H Q) : PI X tg iter t' := ⟨fun pins s σ H Q I q => h.run pins s σ H Q I (k σ H Q q)⟩
theorem _root_.L2.PG.imp {X : Cx} {tg : Expr} {t t' : TG} (h : PG X tg t) (k : ∀ v σ H Q, t' v σ H Q → t v σ H Q) : PG X tg t' := ⟨fun pins s σ H v u Q I r q => h.run pins s σ H v u Q I r (k v σ H Q q)⟩
theorem _root_.L2.PGs.imp {X : Cx} {tg : List Expr} {t t' : TGs} (h : PGs X tg t) (k : ∀ v σ H Q, t' v σ H Q → t v σ H Q) : PGs X tg t' := ⟨fun pins s σ H v u Q I r q => h.run pins s σ H v u Q I r (k v σ H Q q)⟩
theorem _root_.L2.PS.imp {X : Cx} {e : Stmt} {t t' : TS} (h : PS X e t) (k : ∀ D σ H, t' D σ H → t D σ H) : PS X e t' := ⟨fun pins s σ H D I q => h.run pins s σ H D I (k D σ H q)⟩
theorem _root_.L2.PSs.imp {X : Cx} {e : List Stmt} {t t' : TS} (h : PSs X e t) (k : ∀ D σ H, t' D σ H → t D σ H) : PSs X e t' := ⟨fun pins s σ H D I q => h.run pins s σ H D I (k D σ H q)⟩

/-! ### readings -/
abbrev RB' : Rho → Hp → Nat → Bool → Bool → Prop := fun _ _ _ a b => b = a
abbrev RO' : Rho → Hp → Nat → Option Int → Option Int → Prop := fun _ _ _ a b => b = a
/-- a reading of slots and store, with what is wanted of an exception -/
def rdX {α β : Type} (g : Gn) (rel : Rho → Hp → Nat → α → β → Prop) (W : WX) (r : Sl → Mem → R α) : L2.St → Hp → (β → Hp → Prop) → Prop :=
  fun σ H Q => ∃ δ m ρ F, MRel g ρ F m H ∧ RSl g ρ F m.length δ σ ∧ Post g rel ρ F m H (r δ m) Q (WE W σ)
abbrev rdE (g : Gn) (W : WX) (r : Sl → Mem → R D) : TE := rdX g (RD g) W r
abbrev rdT (g : Gn) (W : WX) (r : Sl → Mem → R Bool) : TT := rdX g RB' W r
abbrev rdA (g : Gn) (W : WX) (r : Sl → Mem → R (List D)) : TA := rdX g (RDs g) W r
abbrev rdO (g : Gn) (W : WX) (r : Sl → Mem → R (Option Int)) : L2.TO := rdX g RO' W r

section
variable {g : Gn} {W : WX} {X : Cx}
/-- one thing ahead of another -/
theorem rdX.bind {α β γ δ : Type} {rel : Rho → Hp → Nat → α → γ → Prop} {rel2 : Rho → Hp → Nat → β → δ → Prop} {ra : Sl → Mem → R α} {rb : α → Sl → Mem → R β} {σ : L2.St} {H : Hp} {Q : δ → Hp → Prop} {Q1 : γ → Hp → Prop}
    (h : rdX g rel2 W (fun δ m => (ra δ m).bind fun x m => rb x δ m) σ H Q)
    (k : ∀ δ d m ρ F v H', MRel g ρ F m H' → RSl g ρ F m.length δ σ → rel ρ F m.length d v → Post g rel2 ρ F m H' (rb d δ m) Q (WE W σ) → Q1 v H') : rdX g rel W ra σ H Q1 := by
  obtain ⟨δ, m, ρ, F, M, rs, P⟩ := h
  exact ⟨δ, m, ρ, F, M, rs, P.bind fun d m' v H' ρ' F' x M' r P' => k δ d m' ρ' F' v H' M' (rs.mono x) r P'⟩
theorem rdX.bindE {α β γ δ : Type} {rel : Rho → Hp → Nat → α → γ → Prop} {rel2 : Rho → Hp → Nat → β → δ → Prop} {ra : Sl → Mem → R α} {rb : α → Sl → Mem → R β} {σ : L2.St} {H : Hp} {Q : δ → Hp → Prop} {Q1 : γ → Hp → Prop}
    (h : rdX g rel2 W (fun δ m => (ra δ m).bind fun x m => rb x δ m) σ H Q)
    (k : ∀ δ m0 d m, ra δ m0 = .ok d m → ∀ ρ F v H', MRel g ρ F m H' → RSl g ρ F m.length δ σ → rel ρ F m.length d v → Post g rel2 ρ F m H' (rb d δ m) Q (WE W σ) → Q1 v H') : rdX g rel W ra σ H Q1 := by
  obtain ⟨δ, m, ρ, F, M, rs, P⟩ := h
  exact ⟨δ, m, ρ, F, M, rs, P.bindE fun d m' e v H' ρ' F' x M' r P' => k δ m d m' e ρ' F' v H' M' (rs.mono x) r P'⟩
/-- .. where the second is a reading, too, that knows the first's value -/
theorem rdX.bind2 {α β γ δ : Type} {rel : Rho → Hp → Nat → α → γ → Prop} {rel2 : Rho → Hp → Nat → β → δ → Prop} {ra : Sl → Mem → R α} {rb : Sl → Mem → R β} {op : α → β → Mem → R D} {σ : L2.St} {H : Hp} {Q : VK} {q : γ → δ → Hp → VK → Prop}
    (mo : ∀ {ρ ρ1 : Rho} {F F1 : Hp} {m m1 : Mem} {H H1 : Hp} {a : α} {v : γ}, Ext ρ F m H ρ1 F1 m1 H1 → rel ρ F m.length a v → rel ρ1 F1 m1.length a v)
    (h : rdE g W (fun δ m => (ra δ m).bind fun x m => (rb δ m).bind fun y m => op x y m) σ H Q)
    (k : ∀ d e m ρ F v u H', MRel g ρ F m H' → rel ρ F m.length d v → rel2 ρ F m.length e u → PostD g ρ F m H' (op d e m) Q (WE W σ) → q v u H' Q) :
    rdX g rel W ra σ H fun x H1 => rdX g rel2 W rb σ H1 fun y H2 => q x y H2 Q := by
  refine rdX.bind h fun δ d m ρ F v H' M rs r P => ⟨δ, m, ρ, F, M, rs, P.bind fun e m2 u H2 ρ2 F2 x2 M2 r2 P2 => ?_⟩
  exact k d e m2 ρ2 F2 v u H2 M2 (mo x2 r) r2 P2
theorem rdE.op {ra rb : Sl → Mem → R D} {op : D → D → Mem → R D} {σ : L2.St} {H : Hp} {Q : VK}
    (h : rdE g W (fun δ m => (ra δ m).bind fun x m => (rb δ m).bind fun y m => op x y m) σ H Q) : tOp (rd2 g op) (rdE g W ra) (rdE g W rb) σ H Q :=
  rdX.bind2 (fun x r => r.mono x) h fun d e m ρ F v u H' M r1 r2 P => ⟨d, e, m, ρ, F, _, M, r1, r2, P⟩
/-- a bool -/
theorem asB_post {ρ : Rho} {F : Hp} {m : Mem} {H : Hp} {d : D} {v : V} {α γ : Type} {rel : Rho → Hp → Nat → α → γ → Prop} {f : Bool → Mem → R α} {Q : γ → Hp → Prop} {E : XK} (h : Post g rel ρ F m H ((asB d m).bind f) Q E) (r : RD g ρ F m.length d v) :
    ∃ b, d = .p (.bl b) ∧ v = .bl b ∧ Post g rel ρ F m H (f b m) Q E := by
  unfold asB at h
  split at h
  · rename_i b
    cases r
    exact ⟨b, rfl, rfl, h⟩
  · exact h.elim
/-- a test from a value -/
theorem rdT.val {ra : Sl → Mem → R D} {σ : L2.St} {H : Hp} {Q : Bool → Hp → Prop} (h : rdT g W (fun δ m => (ra δ m).bind asB) σ H Q) : tB (rdE g W ra) σ H Q := by
  obtain ⟨δ, m, ρ, F, M, rs, P⟩ := h
  refine ⟨δ, m, ρ, F, M, rs, P.bind fun d m' v H' ρ' F' x M' r P' => ?_⟩
  unfold asB at P'
  split at P'
  · rename_i b
    cases r
    exact ⟨b, rfl, P'.val M' rfl⟩
  · exact P'.elim

/-! ### the names -/
structure Cd where
  N : List Str
  sc : Scope
  fn : Str → Bool
structure Tb where
  fn : Nat → Option Str
  gl : Nat → Option Str
  cn : Nat → Option Str
  kw : Nat → Nat → List Str → Option (List Nat)
  fl : Nat → Option Str
  mn : Nat → Option Str
  cc : Nat → Option Str
  sn : Nat → Option Str
  xn : Nat → Option Str
  xm : Nat → Option Str
  xp : Nat → Option Str
def isVis (cd : Cd) (x : Str) : Bool := match cd.sc.names.lookup x with
  | some .local => true | some .cell => true | some .free => true | _ => false
def isLoc (cd : Cd) (x : Str) : Bool := match cd.sc.names.lookup x with
  | some .local => true | some .cell => cd.fn x | _ => false
def isL (cd : Cd) (x : Str) : Bool := match cd.sc.names.lookup x with
  | some .local => true | _ => false
def isGl (cd : Cd) (x : Str) : Bool := match cd.sc.names.lookup x with
  | some .globalImplicit => true | _ => false
def nodb (x : Str) : Bool := !(x == ("__debug__" : Str)) && !(x == ("__classdict__" : Str))
/-- the def at a gives what callAt gives -/
def Fnr (g : Gn) (p : Pg) (lv : Nat) (X : Cx) (a : Addr) (f : Nat) : Prop :=
  FnR X.prog X.w X.K X.mg X.base (L2.CX X.prog X.w) (3 * lv + 2) a (fun vs H Q E => ∃ ds m ρ F, MRel g ρ F m H ∧ RDs g ρ F m.length ds vs ∧ PostD g ρ F m H (callAt p lv f ds m) Q E)
/-- C.m is a static method: its record at p, its def at g -/
structure SMet (K : PySem.W.Frag) (C : Addr) (mc : Value) (m : Str) (p g : Addr) : Prop where
  at_ : PySem.W.findCls K (.ref C) mc m = some (.get (.builtin "staticmethod.__get__") (.ref p) .none (.ref C))
  rc : ∃ rest, PySem.W.recIn K p "staticmethod" = some (.ref g :: rest)
  kp : PySem.W.keepIn K (.ref g) = true
def xtU (g : Gn) : XT → Value
  | .own c => .ref (g.xA c)
  | .blt n => .type (xbN n)
/-- an exception's field: none, or one by its parameter -/
def XfRel (g : Gn) (T : Tb) (c : Nat) : Option Nat → Option (Str × Str) → Prop
  | none, none => True
  | some f, some (x, n) => g.fN f = n ∧ T.xp c = some x
  | _, _ => False
/-- what is known of an own class of exceptions -/
structure XcOk (g : Gn) (T : Tb) (P : Program) (K : PySem.W.Frag) (mg : Str → Option Value) (c k : Nat) (z : Str) (fo : Option Nat) : Prop where
  ex : ∃ fl params body scope fI, XfRel g T c fo fl ∧ DnX.XC P K mg (g.xA c) z fl params body scope fI
  k : g.fN k = "code"
  z : z.length ≤ sizeLine
  xf : XfC K (g.xA c)
/-- what the context must bear; lv: how deep calls may go; their room -/
structure Cok (g : Gn) (T : Tb) (p : Pg) (lv : Nat) (X : Cx) (W : WX) (cd : Cd) : Prop where
  K : X.K = g.K
  kf : Kf g
  N : X.N = cd.N
  sc : X.env.scope = cd.sc
  fn : X.fn = cd.fn
  nd : X.N.Nodup
  calm : X.calm = true
  tk : Takes X W
  room : Room (3 * lv + 4) X.A
  bl : ∀ x ∈ (["isinstance", "range", "zip", "len", "int", "abs", "list", "tuple", "all", "any", "sum", "str", "bool", "dict", "enumerate", "sorted", "min", "max", "set", "type", "repr", "super", "ValueError", "LookupError", "IndexError"] : List String), X.mg (Str.ofString x) = none
  call : ∀ f x, T.fn f = some x → ∃ a, X.mg x = some (.ref a) ∧ PySem.W.keepIn X.K (.ref a) = true ∧ Fnr g p lv X a f
  callK : ∀ f x np ks pm, T.fn f = some x → T.kw f np ks = some pm → ∃ a fd ps, X.mg x = some (.ref a) ∧ PySem.W.keepIn X.K (.ref a) = true ∧
    FnOk X.prog X.w X.K X.mg X.base (L2.CX X.prog X.w) (3 * lv + 2) a fd ps (fun vs H Q E => vs.length = ps.length ∧ ∃ ds m ρ F, MRel g ρ F m H ∧ RDs g ρ F m.length ds vs ∧ PostD g ρ F m H (callAt p lv f ds m) Q E) ∧
    pm.length = ps.length ∧ (∀ i ∈ pm, i < np + ks.length) ∧ KBn X.K fd ps np ks (permL pm) (permL pm)
  gl : ∀ n x, T.gl n = some x → ∃ v u, X.mg x = some u ∧ RelV v u ∧ ∀ F, RP g F (p.gv.c n) v
  cn : ∀ n x, T.cn n = some x → X.mg x = some (.ref (g.cA n)) ∧ g.cs n = true
  fl : ∀ n x, T.fl n = some x → g.fN n = x
  fk : ∀ c n, p.gv.fk c n = true → NoAttr X.K (g.cA c) (g.fN n)
  mt : ∀ c n f x, p.gv.mt c n = some f → T.mn n = some x → (∀ j, g.fN j ≠ x) ∧ ∃ a, Meth X.K (g.cA c) x a ∧ Fnr g p lv X a f
  pr : ∀ c n f x, p.gv.pr c n = some f → T.mn n = some x → ∃ q a, PropOf X.K (g.cA c) x q a ∧ Fnr g p lv X a f
  ini : ∀ c f, p.gv.ini c = some f → g.cs c = true ∧ ∃ a, Mk X.K (g.cA c) a ∧ Fnr g p lv X a f
  om : ∀ c k f, p.gv.om c k = some f → ∃ a, PySem.W.findIn X.K (.ref (g.cA c)) (omN k) = some (some (.ref a)) ∧ PySem.W.isFn X.K (.ref a) = true ∧ Fnr g p lv X a f
  one : ∀ c f, p.gv.om c 3 = some f → PySem.W.findIn X.K (.ref (g.cA c)) "__ne__" = some (some (.builtin "object.__ne__"))
  cc : ∀ c n x y, p.gv.cc c n = some y → T.cc n = some x → ∃ mc v u, ClX.CRead X.K (g.cA c) mc ∧ ClX.CVal X.K (g.cA c) mc x v u ∧ ∀ F, RP g F y v
  smK : ∀ c n f x d ks pm, p.gv.sm c n = some (f, true) → T.sn n = some x → p.fd f = some d → T.kw f 1 ks = some pm → ∃ mc q a fd ps, ClX.CRead X.K (g.cA c) mc ∧ ClX.CMet X.K (g.cA c) mc x q a ∧
    FnOk X.prog X.w X.K X.mg X.base (L2.CX X.prog X.w) (3 * lv + 2) a fd ps (fun vs H Q E => vs.length = ps.length ∧ ∃ ds m ρ F, MRel g ρ F m H ∧ RDs g ρ F m.length ds vs ∧ PostD g ρ F m H (callAt p lv f ds m) Q E) ∧
    pm.length = ps.length ∧ (∀ i ∈ pm, i < 1 + ks.length) ∧ KBn X.K fd ps 1 ks (permL pm) (permL pm)
  sm : ∀ c n f b x, p.gv.sm c n = some (f, b) → T.sn n = some x → ∃ mc q a, ClX.CRead X.K (g.cA c) mc ∧ Fnr g p lv X a f ∧ ((b = true ∧ ClX.CMet X.K (g.cA c) mc x q a) ∨ (b = false ∧ SMet X.K (g.cA c) mc x q a))
  xn : ∀ n x, T.xn n = some x → X.mg x = some (.ref (g.xA n))
  xm : ∀ n x, T.xm n = some x → X.mg x = some (.ref (g.xA n)) ∧ (p.gv.xc n).isSome = true
  xc : ∀ c k z fo, p.gv.xc c = some (k, z, fo) → XcOk g T X.prog X.K X.mg c k z fo
  xpn : ∀ n x, T.xp n = some x → ((p.gv.xc n).bind (·.2.2)).isSome = true
  xsub : ∀ c t b, p.gv.xsub c t = some b → ExcC X.K (g.xA c) ∧ PySem.W.kitOne X.K (.ref (g.xA c)) (xtU g t) = some b
variable {T : Tb} {p : Pg} {lv : Nat} {cd : Cd}
theorem Cok.hu (c : Cok g T p lv X W cd) : X.A.units + 65 < cLine := by have := c.room.un; omega
theorem Cok.vis (c : Cok g T p lv X W cd) {x : Str} (h : isVis cd x = true) : Vis X.env.scope x := by
  unfold isVis at h
  rw [c.sc]
  split at h
  · rename_i e; exact .inl e
  · rename_i e; exact .inr (.inl e)
  · rename_i e; exact .inr (.inr e)
  · cases h
theorem Cok.loc (c : Cok g T p lv X W cd) {x : Str} (h : isLoc cd x = true) : Loc X.env.scope x ∧ (X.fn x = true ∨ X.env.scope.names.lookup x = some .local) := by
  unfold isLoc at h
  rw [c.sc, c.fn]
  split at h
  · rename_i e; exact ⟨.inl e, .inr e⟩
  · rename_i e; exact ⟨.inr e, .inl h⟩
  · cases h
theorem Cok.lcl (c : Cok g T p lv X W cd) {x : Str} (h : isL cd x = true) : X.env.scope.names.lookup x = some .local := by
  unfold isL at h
  rw [c.sc]
  split at h
  · rename_i e; exact e
  · cases h
theorem Cok.glb (c : Cok g T p lv X W cd) {x : Str} (h : isGl cd x = true) : Gl X x := by
  unfold isGl at h
  unfold Gl Env.kindOf
  rw [c.sc]
  split at h
  · rename_i e; exact e
  · cases h
theorem nodb_ok {x : Str} (h : nodb x = true) : (x == ("__debug__" : Str)) = false ∧ (x == ("__classdict__" : Str)) = false := by
  unfold nodb at h
  simpa using h

/-! ### plain cases -/
theorem e_var (c : Cok g T p lv X W cd) {i : Nat} {x : Str} {pos : Pos} (hi : cd.N[i]? = some x) (hv : isVis cd x = true) (hd : nodb x = true) :
    PE X (.Name x pos) (rdE g W fun δ m => match δ[i]? with | some (some d) => .ok d m | _ => .no) := by
  refine (pe_var (i := i) (by rw [c.N]; exact hi) (c.vis hv) (nodb_ok hd).1 (nodb_ok hd).2).imp fun σ H Q ⟨δ, m, ρ, F, M, rs, P⟩ => ?_
  dsimp only at P
  split at P
  · rename_i d e
    obtain ⟨v, e1, r⟩ := rs.get i d e
    exact ⟨v, e1, P.val M r⟩
  · exact P.elim
theorem e_glo (c : Cok g T p lv X W cd) {n : Nat} {x : Str} {pos : Pos} (hi : T.gl n = some x) (hv : isGl cd x = true) (hd : nodb x = true) :
    PE X (.Name x pos) (rdE g W fun _ m => .ok (.p (p.gv.c n)) m) := by
  obtain ⟨v, u, h1, h2, h3⟩ := c.gl n x hi
  exact (pe_glob (c.glb hv) h1 h2 (nodb_ok hd).1).imp fun σ H Q ⟨δ, m, ρ, F, M, rs, P⟩ => P.val M (h3 F)
def cstOk : P → Const → Bool
  | .non, .none => true
  | .bl b, .bool c => b == c
  | .int i, .int j => decide (i = j)
  | .str x, .str y => decide (x = y) && decide (x.length ≤ 10000)
  | _, _ => false
theorem e_cst {x : P} {k : Const} {j : Nat} {pos : Pos} (h : cstOk x k = true) : PE X (.Constant k j pos) (rdE g W fun _ m => .ok (.p x) m) := by
  unfold cstOk at h
  split at h
  · exact pe_non.imp fun σ H Q ⟨δ, m, ρ, F, M, rs, P⟩ => P.val M RP.non
  · rw [eq_of_beq h]
    exact pe_bl.imp fun σ H Q ⟨δ, m, ρ, F, M, rs, P⟩ => P.val M (RP.bl _)
  · rw [of_decide_eq_true h]
    exact pe_int.imp fun σ H Q ⟨δ, m, ρ, F, M, rs, P⟩ => P.val M (RP.int _)
  · obtain ⟨h1, h2⟩ := Bool.and_eq_true_iff.mp h
    rw [← of_decide_eq_true h1]
    exact pe_str.imp fun σ H Q ⟨δ, m, ρ, F, M, rs, P⟩ => P.val M (RP.str _ (Nat.le_trans (of_decide_eq_true h2) (by rw [PySem.sizeLine_eq]; decide)))
  · cases h
theorem e_bin (c : Cok g T p lv X W cd) {o : BOp} {a b : Expr} {pos : Pos} {ra rb : Sl → Mem → R D} (ha : PE X a (rdE g W ra)) (hb : PE X b (rdE g W rb)) :
    PE X (.BinOp a (bO o) b pos) (rdE g W fun δ m => (ra δ m).bind fun x m => (rb δ m).bind fun y m => binS o x y m) :=
  (pe_op (bin_ok c.K o) ha hb).imp fun _ _ _ h => rdE.op h
theorem e_neg {a : Expr} {pos : Pos} {ra : Sl → Mem → R D} (ha : PE X a (rdE g W ra)) :
    PE X (.UnaryOp .USub a pos) (rdE g W fun δ m => (ra δ m).bind fun x m => match x with | .p (.int i) => .ok (.p (.int (-i))) m | _ => .no) :=
  (pe_un un_neg ha).imp fun _ _ _ h => rdX.bind h fun δ d m ρ F v H' M rs r P => by
    split at P
    · cases r
      exact ⟨_, rfl, P.val M (RP.int _)⟩
    · exact P.elim
def noSet : Expr → Bool
  | .Set .. => false
  | _ => true
theorem noSet_ok {op : CmpOp} {b : Expr} (h : noSet b = true) : behindInMarks op b = false := by cases b <;> first | rfl | cases h
theorem wish_no {X : Cx} {s : Shared} {H : Hp} {e : Value} {s' : Shared} {W : WX} {σ : L2.St} {pins : List (Addr × Obj)} (I : Inv X pins σ H s) (h : L2.CX X.prog X.w X.stack H s (fun _ _ _ => False) e s') (tk : Takes X W) : X.xe e s' :=
  tk e s' (XE.of_call I (fun _ _ _ z => z.elim) h)
/-- a callee that does not raise -/
theorem run_calm (c : Cok g T p lv X W cd) {A : Around} (hr : Room (3 * lv + 2) A) (hA : A.frames = X.A.frames) {f : Nat} {a : Addr} {pins : List (Addr × Obj)} {σ : L2.St} {H : Hp} {s : Shared} {Q : VK} {us : List Value} {vs : List V}
    (Fn : Fnr g p lv X a f) (I : Inv X pins σ H s) (r : Vals vs us) {ds : List D} {m : Mem} {ρ : Rho} {F : Hp} {E : XK} (M : MRel g ρ F m H) (rd : RDs g ρ F m.length ds vs) (h : PostD g ρ F m H (callAt p lv f ds m).calm Q E) :
    wpAny (model X.prog X.w) A (call (.ref a) us) (EP X pins σ Q) X.xe s := by
  have e0 : Env0 X.prog X.w X.K X.mg X.base A X.stack s H := by
    have e := I.env0
    exact ⟨by rw [hA]; exact e.frames, e.mod, e.bs, e.bsz, e.funs, e.frf, e.hok, e.bare⟩
  have h' : PostD g ρ F m H (callAt p lv f ds m) Q (fun _ _ _ => False) := by
    cases q : callAt p lv f ds m with
    | ok d m' => rw [q] at h; exact h
    | ex x m' => rw [q] at h; exact h.elim
    | no => rw [q] at h; exact h.elim
  refine wpAny_call (codeAny_mono (Fn A X.stack s H us vs Q (fun _ _ _ => False) hr e0 r ⟨ds, m, ρ, F, M, rd, h'⟩) fun r s' hq => ?_)
  cases r with
  | error e => exact wish_no I hq c.tk
  | ok fl =>
    cases fl with
    | ret u => exact I.after hq
    | next => exact False.elim hq
    | brk => exact False.elim hq
    | cont => exact False.elim hq
theorem kind_looks (c : Cok g T p lv X W cd) {ρ : Rho} {F H : Hp} {m : Mem} {pins : List (Addr × Obj)} {σ : L2.St} {s : Shared} (I : Inv X pins σ H s) (M : MRel g ρ F m H) {d : D} {v : V} {u : Value} (r : RD g ρ F m.length d v) (ru : RelV v u) {C : Addr} (hk : (kindS d m).isSome = true) (hc : ∀ k, g.cs k = true → PySem.W.notFirst X.K C (.ref (g.cA k)) = true) :
    ∃ tb, PySem.W.Looks (model X.prog X.w) s.heap (typeOf u) tb ∧ PySem.W.notFirst X.K C tb = true := by
  cases e : kindS d m with
  | none => rw [e] at hk; cases hk
  | some k =>
    obtain ⟨k1, k2, k3⟩ := kind_ok c.kf M r e
    rw [← c.K] at k1
    obtain ⟨P, kx, hp, _⟩ := kit_of I ru k1
    refine ⟨_, kx.ty _ _ I.kIn hp, ?_⟩
    cases k with
    | inl j => exact hc j (k2 j rfl)
    | inr t => exact notFirst_bt (k3 t rfl)
theorem ins_at {ρ : Rho} {F H : Hp} {m : Mem} (M : MRel g ρ F m H) {d : D} {v : V} {c : Nat} (e : clsS d m = some c) (r : RD g ρ F m.length d v) : ∃ a dx fs, v = .ref a ∧ H a = some (.ins (g.cA c) dx fs) ∧ g.cs c = true := by
  unfold clsS at e
  split at e
  · cases e
    cases r with
    | ins z h t => exact ⟨_, _, _, rfl, M.sub.ins h, z⟩
  · rename_i n
    split at e
    · rename_i c' l q
      cases e
      obtain ⟨ho, rfl, h1, h2⟩ := M.look q r
      obtain ⟨dx, fs, rfl, h3, h4⟩ := rmo_ins h2
      exact ⟨_, dx, fs, rfl, h1, h3⟩
    · cases e
  · cases e
theorem ansB_ok {ρ : Rho} {F H : Hp} {m : Mem} {f : Bool → Bool} {d : D} {v : V} {Q : VK} {E : XK} (h : PostD g ρ F m H (ansB f d m) Q E) (M : MRel g ρ F m H) (r : RD g ρ F m.length d v) : ∃ b, v = .bl b ∧ Q (.bl (f b)) H := by
  unfold ansB at h
  split at h
  · cases r; exact ⟨_, rfl, h.val M (RP.bl _)⟩
  · exact h.elim
theorem eq_run (c : Cok g T p lv X W cd) {cn f : Nat} {ρ : Rho} {F H : Hp} {m : Mem} {pins : List (Addr × Obj)} {σ : L2.St} {s : Shared} {Q : VK} {E : XK} (I : Inv X pins σ H s) (M : MRel g ρ F m H) {d e : D} {x y : V} {v u : Value} (hd : RD g ρ F m.length d x) (he : RD g ρ F m.length e y) (rx : RelV x v) (ry : RelV y u)
    (ec : clsS d m = some cn) (ef : p.gv.om cn 3 = some f) (ek : (kindS e m).isSome = true) (neg : Bool)
    (h : PostD g ρ F m H ((callAt p lv f [d, e] m).calm.bind (ansB (if neg then not else id))) Q E) :
    wpAny (model X.prog X.w) X.A (compareOp (if neg then .NotEq else .Eq) v u) (EP X pins σ Q) X.xe s := by
  obtain ⟨a, dx, fs, rfl, ha, hc⟩ := ins_at M ec hd
  cases (show v = Value.ref a from rx)
  obtain ⟨mA, O, _⟩ := ins_get I.hok ha
  obtain ⟨od, J, _⟩ := O.look
  obtain ⟨g1, g2, g3, Fn⟩ := c.om cn 3 f ef
  obtain ⟨tb, lk, nf⟩ := kind_looks c (C := g.cA cn) I M he ry ek fun k hk => by rw [c.K]; exact c.kf.nf cn k hc hk
  obtain ⟨ms, hF⟩ := I.fr
  have rd : RDs g ρ F m.length [d, e] [.ref a, y] := ⟨hd, he, trivial⟩
  have rv : Vals [V.ref a, y] [Value.ref a, u] := .cons rfl (.cons ry .nil)
  cases neg with
  | false =>
    show wpAny (model X.prog X.w) X.A (richCompare .Eq (.ref a) u) (EP X pins σ Q) X.xe s
    refine PySem.W.cmp_K (op := .Eq) (tb := tb) c.room.units0 hF I.ok.mod.kin J lk nf g2 g3 ?_
    refine wpAny_mono (run_calm c (c.room.mono (by omega)) rfl Fn I rv M rd (Q := fun v H' => ∃ b, v = .bl b ∧ Q (.bl b) H') (h.bind fun r m' w H' ρ' F' x M' rr P => ansB_ok P M' rr)) (fun w s' z => ?_) fun _ _ x => x
    obtain ⟨w', H', I', rw', b, rfl, q⟩ := z
    cases (show w = Value.bool b from rw')
    exact ⟨.bl b, H', I', rfl, q⟩
  | true =>
    show wpAny (model X.prog X.w) X.A (richCompare .NotEq (.ref a) u) (EP X pins σ Q) X.xe s
    refine ne_K (tb := tb) (by have := c.hu; omega) I.kIn J lk nf (by rw [c.K]; exact c.kf.cm _ hc) (c.one cn f ef) g2 g3 ?_
    refine wpAny_mono (run_calm c (c.room.in1.mono (by omega)) rfl Fn I rv M rd (Q := fun v H' => ∃ b, v = .bl b ∧ Q (.bl (!b)) H') (h.bind fun r m' w H' ρ' F' x M' rr P => ansB_ok P M' rr)) (fun w s' z => ?_) fun _ _ x => x
    obtain ⟨w', H', I', rw', b, rfl, q⟩ := z
    cases (show w = Value.bool b from rw')
    exact ⟨b, rfl, .bl (!b), H', I', rfl, q⟩
theorem in_own (c : Cok g T p lv X W cd) {cn f : Nat} {ρ : Rho} {F H : Hp} {m : Mem} {pins : List (Addr × Obj)} {σ : L2.St} {s : Shared} {Q : VK} {E : XK} (I : Inv X pins σ H s) (M : MRel g ρ F m H) {d e : D} {x y : V} {v u : Value} (hd : RD g ρ F m.length d x) (he : RD g ρ F m.length e y) (rx : RelV x v) (ry : RelV y u)
    (ec : clsS e m = some cn) (ef : p.gv.om cn 2 = some f) (neg : Bool)
    (h : PostD g ρ F m H ((callAt p lv f [e, d] m).calm.bind (ansB (if neg then not else id))) Q E) :
    wpAny (model X.prog X.w) X.A (compareOp (if neg then .NotIn else .In) v u) (EP X pins σ Q) X.xe s := by
  obtain ⟨a, dx, fs, rfl, ha, hc⟩ := ins_at M ec he
  cases (show u = Value.ref a from ry)
  obtain ⟨mA, O, _⟩ := ins_get I.hok ha
  obtain ⟨od, J, _⟩ := O.look
  obtain ⟨g1, g2, g3, Fn⟩ := c.om cn 2 f ef
  obtain ⟨ms, hF⟩ := I.fr
  have rd : RDs g ρ F m.length [e, d] [.ref a, x] := ⟨he, hd, trivial⟩
  have rv : Vals [V.ref a, x] [Value.ref a, v] := .cons rfl (.cons rx .nil)
  cases neg with
  | false =>
    refine PySem.W.in_K hF I.ok.mod.kin J g2 g3 ?_
    refine wpAny_mono (run_calm c (c.room.mono (by omega)) rfl Fn I rv M rd (Q := fun v H' => ∃ b, v = .bl b ∧ Q (.bl b) H') (h.bind fun r m' w H' ρ' F' x M' rr P => ansB_ok P M' rr)) (fun w s' z => ?_) fun _ _ x => x
    obtain ⟨w', H', I', rw', b, rfl, q⟩ := z
    cases (show w = Value.bool b from rw')
    exact wpAny_truthy_bool ⟨.bl b, H', I', rfl, q⟩
  | true =>
    refine PySem.W.notIn_K hF I.ok.mod.kin J g2 g3 ?_
    refine wpAny_mono (run_calm c (c.room.mono (by omega)) rfl Fn I rv M rd (Q := fun v H' => ∃ b, v = .bl b ∧ Q (.bl (!b)) H') (h.bind fun r m' w H' ρ' F' x M' rr P => ansB_ok P M' rr)) (fun w s' z => ?_) fun _ _ x => x
    obtain ⟨w', H', I', rw', b, rfl, q⟩ := z
    cases (show w = Value.bool b from rw')
    exact wpAny_truthy_bool ⟨.bl (!b), H', I', rfl, q⟩
theorem cmpO_ok (c : Cok g T p lv X W cd) (o : COp) : OpR X (compareOp (cO o)) (rd2 g (cmpO (callAt p lv) p.gv o)) := by
  have base : ∀ o, OpR X (compareOp (cO o)) (rd2 g (cmpS o)) := cmp_ok c.K c.hu
  rintro pins s σ H x y v u Q I rx ry ⟨d, e, m, ρ, F, E, M, hd, he, h⟩
  cases o with
  | eq =>
    unfold cmpO at h
    simp only at h
    split at h
    · rename_i cn ec
      split at h
      · rename_i f ef
        split at h
        · rename_i ek
          exact eq_run c I M hd he rx ry ec ef ek false h
        · exact h.elim
      · exact h.elim
    · exact base .eq pins s σ H x y v u Q I rx ry ⟨d, e, m, ρ, F, E, M, hd, he, h⟩
  | ne =>
    unfold cmpO at h
    simp only at h
    split at h
    · rename_i cn ec
      split at h
      · rename_i f ef
        split at h
        · rename_i ek
          exact eq_run c I M hd he rx ry ec ef ek true h
        · exact h.elim
      · exact h.elim
    · exact base .ne pins s σ H x y v u Q I rx ry ⟨d, e, m, ρ, F, E, M, hd, he, h⟩
  | inn =>
    unfold cmpO at h
    simp only at h
    split at h
    · rename_i cn ec
      split at h
      · rename_i f ef
        exact in_own c I M hd he rx ry ec ef false h
      · exact h.elim
    · exact base .inn pins s σ H x y v u Q I rx ry ⟨d, e, m, ρ, F, E, M, hd, he, h⟩
  | nin =>
    unfold cmpO at h
    simp only at h
    split at h
    · rename_i cn ec
      split at h
      · rename_i f ef
        exact in_own c I M hd he rx ry ec ef true h
      · exact h.elim
    · exact base .nin pins s σ H x y v u Q I rx ry ⟨d, e, m, ρ, F, E, M, hd, he, h⟩
  | _ => exact base _ pins s σ H x y v u Q I rx ry ⟨d, e, m, ρ, F, E, M, hd, he, h⟩
theorem e_cmp (c : Cok g T p lv X W cd) {o : COp} {a b : Expr} {pos : Pos} {ra rb : Sl → Mem → R D} (ha : PE X a (rdE g W ra)) (hb : PE X b (rdE g W rb)) (hn : noSet b = true) :
    PE X (.Compare a [cO o] [b] pos) (rdE g W fun δ m => (ra δ m).bind fun x m => (rb δ m).bind fun y m => cmpO (callAt p lv) p.gv o x y m) :=
  (pe_cmpR (cmpO_ok c o) ha hb (noSet_ok hn)).imp fun _ _ _ h => rdE.op h
theorem t_cmp (c : Cok g T p lv X W cd) {o : COp} {a b : Expr} {pos : Pos} {ra rb : Sl → Mem → R D} (ha : PE X a (rdE g W ra)) (hb : PE X b (rdE g W rb)) (hn : noSet b = true) :
    PT X (.Compare a [cO o] [b] pos) (rdT g W fun δ m => ((ra δ m).bind fun x m => (rb δ m).bind fun y m => cmpO (callAt p lv) p.gv o x y m).bind asB) := by
  refine (pt_cmpR (cmpO_ok c o) ha hb (noSet_ok hn)).imp fun _ _ _ h => ?_
  exact rdE.op (rdT.val h)
theorem last2 {o o' : CmpOp} {b c : Expr} (h : noSet c = true) : lastMarks [o, o'] [b, c] = false := noSet_ok h
theorem chain_rd {o o' : COp} {ra rb rc : Sl → Mem → R D} {σ : L2.St} {H : Hp} {Q : VK}
    (h : rdE g W (fun δ m => (ra δ m).bind fun x m => (rb δ m).bind fun y m => (cmpS o x y m).bind fun k m => (asB k m).bind fun k m => if k then (rc δ m).bind fun z m => cmpS o' y z m else .ok (.p (.bl false)) m) σ H Q) :
    tChain (rd2 g (cmpS o)) (rd2 g (cmpS o')) (rdE g W ra) (rdE g W rb) (rdE g W rc) σ H Q := by
  refine rdX.bind h fun δ d m ρ F v H' M rs r P => ⟨δ, m, ρ, F, M, rs, P.bind fun e m2 u H2 ρ2 F2 x2 M2 r2 P2 => ?_⟩
  refine ⟨d, e, m2, ρ2, F2, WE W σ, M2, r.mono x2, r2, P2.bind fun k m3 z H3 ρ3 F3 x3 M3 r3 P3 => ?_⟩
  obtain ⟨b, rfl, rfl, P4⟩ := asB_post P3 r3
  refine ⟨b, rfl, ?_⟩
  cases b with
  | false => exact P4.val M3 (RP.bl _)
  | true => exact ⟨δ, m3, ρ3, F3, M3, (rs.mono x2).mono x3, P4.bind fun z m4 y H4 ρ4 F4 x4 M4 r4 P5 => ⟨e, z, m4, ρ4, F4, WE W σ, M4, (r2.mono x3).mono x4, r4, P5⟩⟩
theorem e_cmp2 (c : Cok g T p lv X W cd) {o o' : COp} {a b e : Expr} {pos : Pos} {ra rb rc : Sl → Mem → R D} (ha : PE X a (rdE g W ra)) (hb : PE X b (rdE g W rb)) (he : PE X e (rdE g W rc)) (hn : noSet e = true) :
    PE X (.Compare a [cO o, cO o'] [b, e] pos) (rdE g W fun δ m => (ra δ m).bind fun x m => (rb δ m).bind fun y m => (cmpS o x y m).bind fun k m => (asB k m).bind fun k m => if k then (rc δ m).bind fun z m => cmpS o' y z m else .ok (.p (.bl false)) m) :=
  (pe_chain (cmp_ok c.K c.hu o) (cmp_ok c.K c.hu o') ha hb he (last2 hn)).imp fun _ _ _ h => chain_rd h
theorem t_cmp2 (c : Cok g T p lv X W cd) {o o' : COp} {a b e : Expr} {pos : Pos} {ra rb rc : Sl → Mem → R D} (ha : PE X a (rdE g W ra)) (hb : PE X b (rdE g W rb)) (he : PE X e (rdE g W rc)) (hn : noSet e = true) :
    PT X (.Compare a [cO o, cO o'] [b, e] pos) (rdT g W fun δ m => ((ra δ m).bind fun x m => (rb δ m).bind fun y m => (cmpS o x y m).bind fun k m => (asB k m).bind fun k m => if k then (rc δ m).bind fun z m => cmpS o' y z m else .ok (.p (.bl false)) m).bind asB) :=
  (pt_chain (cmp_ok c.K c.hu o) (cmp_ok c.K c.hu o') ha hb he (last2 hn)).imp fun _ _ _ h => chain_rd (rdT.val h)
theorem e_and {a b : Expr} {l : List Expr} {pos : Pos} {ra rb : Sl → Mem → R D} (ha : PE X a (rdE g W ra)) (hb : PE X (.BoolOp .And (b :: l) pos) (rdE g W rb)) :
    PE X (.BoolOp .And (a :: b :: l) pos) (rdE g W fun δ m => (ra δ m).bind fun x m => (asB x m).bind fun x m => if x then rb δ m else .ok (.p (.bl false)) m) := by
  refine (pe_and ha hb).imp fun σ H Q h => rdX.bind h fun δ d m ρ F v H' M rs r P => ?_
  obtain ⟨b, rfl, rfl, P2⟩ := asB_post P r
  refine ⟨b, rfl, ?_⟩
  cases b with
  | false => exact P2.val M (RP.bl _)
  | true => exact ⟨δ, m, ρ, F, M, rs, P2⟩
theorem e_or {a b : Expr} {l : List Expr} {pos : Pos} {ra rb : Sl → Mem → R D} (ha : PE X a (rdE g W ra)) (hb : PE X (.BoolOp .Or (b :: l) pos) (rdE g W rb)) :
    PE X (.BoolOp .Or (a :: b :: l) pos) (rdE g W fun δ m => (ra δ m).bind fun x m => (asB x m).bind fun x m => if x then .ok (.p (.bl true)) m else rb δ m) := by
  refine (pe_or ha hb).imp fun σ H Q h => rdX.bind h fun δ d m ρ F v H' M rs r P => ?_
  obtain ⟨b, rfl, rfl, P2⟩ := asB_post P r
  refine ⟨b, rfl, ?_⟩
  cases b with
  | true => exact P2.val M (RP.bl _)
  | false => exact ⟨δ, m, ρ, F, M, rs, P2⟩
theorem e_not {a : Expr} {pos : Pos} {ra : Sl → Mem → R D} (ha : PE X a (rdE g W ra)) :
    PE X (.UnaryOp .Not a pos) (rdE g W fun δ m => (ra δ m).bind fun x m => (asB x m).bind fun x m => .ok (.p (.bl (!x))) m) := by
  refine (pe_not ha).imp fun σ H Q h => rdX.bind h fun δ d m ρ F v H' M rs r P => ?_
  obtain ⟨b, rfl, rfl, P2⟩ := asB_post P r
  exact ⟨b, rfl, P2.val M (RP.bl _)⟩
/-- the tests -/
theorem bB {ra : R D} {k : Bool → Mem → R D} {α : Type} (f : D → Mem → R α) : ((ra.bind fun x m => (asB x m).bind k).bind f) = (ra.bind asB).bind fun b m => (k b m).bind f := by
  cases ra with
  | ok d m =>
    show ((asB d m).bind k).bind f = (asB d m).bind fun b m => (k b m).bind f
    cases asB d m <;> rfl
  | ex x m => rfl
  | no => rfl
theorem _root_.L2.PW.imp {X : Cx} {e : Expr} {t t' : TT} (h : PW X e t) (k : ∀ σ H Q, t' σ H Q → t σ H Q) : PW X e t' := ⟨fun wh pins s σ H Q I q => h.run wh pins s σ H Q I (k σ H Q q)⟩
theorem t_and {a b : Expr} {l : List Expr} {pos : Pos} {ra rb : Sl → Mem → R D} (ha : PT X a (rdT g W fun δ m => (ra δ m).bind asB)) (hb : PW X (.BoolOp .And (b :: l) pos) (rdT g W fun δ m => (rb δ m).bind asB)) :
    PW X (.BoolOp .And (a :: b :: l) pos) (rdT g W fun δ m => ((ra δ m).bind fun x m => (asB x m).bind fun x m => if x then rb δ m else .ok (.p (.bl false)) m).bind asB) := by
  refine (pw_and ha hb).imp fun σ H Q h => ?_
  obtain ⟨δ, m, ρ, F, M, rs, P⟩ := h
  dsimp only at P
  rw [bB] at P
  refine ⟨δ, m, ρ, F, M, rs, P.bind fun d m' v H' ρ' F' x M' r P' => ?_⟩
  subst r
  cases v with
  | true => exact ⟨δ, m', ρ', F', M', rs.mono x, P'⟩
  | false => exact P'.val M' rfl
theorem t_or {a b : Expr} {l : List Expr} {pos : Pos} {ra rb : Sl → Mem → R D} (ha : PT X a (rdT g W fun δ m => (ra δ m).bind asB)) (hb : PW X (.BoolOp .Or (b :: l) pos) (rdT g W fun δ m => (rb δ m).bind asB)) :
    PW X (.BoolOp .Or (a :: b :: l) pos) (rdT g W fun δ m => ((ra δ m).bind fun x m => (asB x m).bind fun x m => if x then .ok (.p (.bl true)) m else rb δ m).bind asB) := by
  refine (pw_or ha hb).imp fun σ H Q h => ?_
  obtain ⟨δ, m, ρ, F, M, rs, P⟩ := h
  dsimp only at P
  rw [bB] at P
  refine ⟨δ, m, ρ, F, M, rs, P.bind fun d m' v H' ρ' F' x M' r P' => ?_⟩
  subst r
  cases v with
  | false => exact ⟨δ, m', ρ', F', M', rs.mono x, P'⟩
  | true => exact P'.val M' rfl
theorem t_not {a : Expr} {pos : Pos} {ra : Sl → Mem → R D} (ha : PT X a (rdT g W fun δ m => (ra δ m).bind asB)) :
    PT X (.UnaryOp .Not a pos) (rdT g W fun δ m => ((ra δ m).bind fun x m => (asB x m).bind fun x m => .ok (.p (.bl (!x))) m).bind asB) := by
  refine (pt_not ha).imp fun σ H Q h => ?_
  obtain ⟨δ, m, ρ, F, M, rs, P⟩ := h
  dsimp only at P
  rw [bB] at P
  refine ⟨δ, m, ρ, F, M, rs, P.bind fun d m' v H' ρ' F' x M' r P' => ?_⟩
  subst r
  exact P'.val M' rfl
/-- a test of no form of its own -/
def plainT : Expr → Bool
  | .UnaryOp .Not .. => false
  | .BoolOp .. => false
  | .IfExp .. => false
  | .Compare .. => false
  | _ => true
theorem t_val {e : Expr} {ra : Sl → Mem → R D} (he : PE X e (rdE g W ra)) (hp : plainT e = true) : PT X e (rdT g W fun δ m => (ra δ m).bind asB) := by
  refine (pt_val he fun whole => ?_).imp fun σ H Q h => rdT.val h
  cases e <;> first
    | rfl
    | cases hp
    | (rename_i op _ _; cases op <;> first | rfl | cases hp)
theorem e_ite {c a b : Expr} {pos : Pos} {rc ra rb : Sl → Mem → R D} (hc : PT X c (rdT g W fun δ m => (rc δ m).bind asB)) (ha : PE X a (rdE g W ra)) (hb : PE X b (rdE g W rb)) :
    PE X (.IfExp c a b pos) (rdE g W fun δ m => (rc δ m).bind fun x m => (asB x m).bind fun x m => if x then ra δ m else rb δ m) := by
  refine (pe_ifExp hc ha hb).imp fun σ H Q h => ?_
  obtain ⟨δ, m, ρ, F, M, rs, P⟩ := h
  have P : PostD g ρ F m H (((rc δ m).bind asB).bind fun x m => if x then ra δ m else rb δ m) Q (WE W σ) := by
    have e : ((rc δ m).bind fun x m => (asB x m).bind fun x m => if x then ra δ m else rb δ m) = ((rc δ m).bind asB).bind fun x m => if x then ra δ m else rb δ m := by cases rc δ m <;> rfl
    rw [← e]; exact P
  refine ⟨δ, m, ρ, F, M, rs, P.bind fun d m' v H' ρ' F' x M' r P' => ?_⟩
  subst r
  cases v with
  | false => exact ⟨δ, m', ρ', F', M', rs.mono x, P'⟩
  | true => exact ⟨δ, m', ρ', F', M', rs.mono x, P'⟩
def noSl : Expr → Bool
  | .Slice .. => false
  | _ => true
theorem plainIx_of {b : Expr} (h : noSl b = true) : PlainIx b := by
  intro o i
  cases b <;> first | rfl | cases h
theorem e_ix (c : Cok g T p lv X W cd) {a b : Expr} {pos : Pos} {ra rb : Sl → Mem → R D} (ha : PE X a (rdE g W ra)) (hb : PE X b (rdE g W rb)) (hn : noSl b = true) :
    PE X (.Subscript a b pos) (rdE g W fun δ m => (ra δ m).bind fun x m => (rb δ m).bind fun y m => ixS x y m) :=
  (pe_ix (ix_ok c.K c.hu) ha hb (plainIx_of hn)).imp fun _ _ _ h => rdE.op h
theorem o_none : L2.PO X none (rdO g W fun _ m => .ok none m) := L2.po_none.imp fun σ H Q ⟨δ, m, ρ, F, M, rs, P⟩ => P.val M rfl
theorem o_some {e : Expr} {ra : Sl → Mem → R D} (he : PE X e (rdE g W ra)) : L2.PO X (some e) (rdO g W fun δ m => (ra δ m).bind fun x m => match x with | .p (.int i) => .ok (some i) m | _ => .no) :=
  (L2.po_some he).imp fun σ H Q h => rdX.bind h fun δ d m ρ F v H' M rs r P => by
    split at P
    · cases r
      exact ⟨_, rfl, P.val M rfl⟩
    · exact P.elim
theorem e_sl (c : Cok g T p lv X W cd) {a : Expr} {lo hi : Option Expr} {pos p2 : Pos} {ra : Sl → Mem → R D} {rl rh : Sl → Mem → R (Option Int)} (ha : PE X a (rdE g W ra)) (hl : L2.PO X lo (rdO g W rl)) (hh : L2.PO X hi (rdO g W rh)) :
    PE X (.Subscript a (.Slice lo hi none p2) pos) (rdE g W fun δ m => (ra δ m).bind fun x m => (rl δ m).bind fun i m => (rh δ m).bind fun j m => slS x i j m) := by
  refine (L2.pe_slice (sl_ok c.K) ha hl hh).imp fun σ H Q h => rdX.bind h fun δ d m ρ F v H' M rs r P => ?_
  refine ⟨δ, m, ρ, F, M, rs, P.bind fun i m2 i' H2 ρ2 F2 x2 M2 r2 P2 => ⟨δ, m2, ρ2, F2, M2, rs.mono x2, P2.bind fun j m3 j' H3 ρ3 F3 x3 M3 r3 P3 => ?_⟩⟩
  subst r2 r3
  exact ⟨d, m3, ρ3, F3, _, M3, (r.mono x2).mono x3, P3⟩
/-! freezing -/
/-- H, some of its objects locked -/
inductive Frzb (K : Hp → Prop) : Hp → Prop
  | done {H : Hp} : K H → Frzb K H
  | lock {H : Hp} {d : Addr} {u : HO} : H d = some u → Mut (some u) → (∀ od, Frzb K (upd H d (.frz od u))) → Frzb K H
theorem pe_freeze {X : Cx} {e : Expr} {t : TE} (h : PE X e t) : PE X e (fun σ H Q => t σ H fun v H1 => Frzb (Q v) H1) := by
  refine ⟨fun pins s σ H Q I hw => thn (h.run pins s σ H _ I hw) fun u s1 ⟨v, H1, I1, r, q⟩ => ?_⟩
  have go : ∀ H1, Frzb (Q v) H1 → Inv X pins σ H1 s1 → EP X pins σ Q u s1 := by
    intro H1 q
    induction q with
    | done k => exact fun I1 => ⟨v, _, I1, r, k⟩
    | lock hd mu _ ih =>
      intro I1
      obtain ⟨od, I2⟩ := I1.lock hd mu
      exact ih od I2
  exact go H1 q I1
/-- what is known of a freezing's end -/
def FEnd (g : Gn) (ρ : Rho) (F : Hp) (m : Mem) (H : Hp) (m' : Mem) (K : Hp → Prop) (rel : Hp → Prop) : Prop :=
  (∀ F' H', Ext ρ F m H ρ F' m' H' → MRel g ρ F' m' H' → (∀ n, Live m' n → H' (ρ n) = H (ρ n)) → rel F' → Frzb K H') → Frzb K H
theorem frzL_rel {f : D → Mem → Option (P × Mem)} {K : Hp → Prop} (hk : ∀ d m x m', f d m = some (x, m') → ∀ n, Live m' n → Live m n) (hf : ∀ d m x m' ρ F v H, f d m = some (x, m') → MRel g ρ F m H → RD g ρ F m.length d v → FEnd g ρ F m H m' K fun F' => RP g F' x v) :
    ∀ {l : List D} {m m' : Mem} {xs : List P} {ρ : Rho} {F H : Hp} {vs : List V}, frzL f l m = some (xs, m') → MRel g ρ F m H → RDs g ρ F m.length l vs → FEnd g ρ F m H m' K fun F' => RPs g F' xs vs
  | [], m, m', xs, ρ, F, H, vs, e, M, r => by
    cases e
    cases vs with
    | nil => exact fun k => k F H Ext.refl M (fun _ _ => rfl) .nil
    | cons _ _ => exact r.elim
  | d :: l, m, m', xs, ρ, F, H, vs, e, M, r => by
    cases vs with
    | nil => exact r.elim
    | cons v vs =>
      unfold frzL at e
      split at e
      · rename_i x m1 e1
        split at e
        · rename_i xs' m2 e2
          cases e
          intro k
          refine hf d m x m1 ρ F v H e1 M r.1 fun F1 H1 x1 M1 s1 r1 => ?_
          refine frzL_rel hk hf (l := l) e2 M1 (RDs.mono x1 r.2) fun F2 H2 x2 M2 s2 r2 => ?_
          exact k F2 H2 (x1.trans x2) M2 (fun n hn => (s2 n hn).trans (s1 n (frzL_live hk e2 n hn))) (.cons (RP.up x2.Sub r1) r2)
        · cases e
      · cases e
where
  frzL_live {f : D → Mem → Option (P × Mem)} (hk : ∀ d m x m', f d m = some (x, m') → ∀ n, Live m' n → Live m n) : ∀ {l : List D} {m m' : Mem} {xs : List P}, frzL f l m = some (xs, m') → ∀ n, Live m' n → Live m n
  | [], m, m', xs, e, n, h => by cases e; exact h
  | d :: l, m, m', xs, e, n, h => by
    unfold frzL at e
    split at e
    · rename_i x m1 e1
      split at e
      · rename_i xs' m2 e2
        cases e
        exact hk d m x m1 e1 n (frzL_live hk e2 n h)
      · cases e
    · cases e
theorem kill_live {m : Mem} {n k : Nat} (h : Live (m.kill n) k) : Live m k := by
  obtain ⟨o, e⟩ := h
  unfold Mem.kill at e
  by_cases z : n = k
  · subst z
    have : n < m.length := by
      have := (List.getElem?_eq_some_iff.mp e).1
      simpa using this
    rw [List.getElem?_set_self this] at e
    cases e
  · rw [List.getElem?_set_ne z] at e
    exact ⟨o, e⟩
theorem frzN_live : ∀ (k : Nat) (d : D) (m : Mem) (x : P) (m' : Mem), frzN k d m = some (x, m') → ∀ n, Live m' n → Live m n
  | 0, .p x, m, y, m', e, n, h => by unfold frzN at e; cases e; exact h
  | k + 1, .p x, m, y, m', e, n, h => by unfold frzN at e; cases e; exact h
  | 0, .ref n, m, y, m', e, j, h => by unfold frzN at e; cases e
  | k + 1, .ref n, m, y, m', e, j, h => by
    have ih := frzN_live k
    unfold frzN at e
    split at e
    · split at e
      · rename_i ps m1 e1
        split at e
        · cases e
          exact frzL_rel.frzL_live ih e1 j (kill_live h)
        · cases e
      · cases e
    · split at e
      · rename_i ps m1 e1
        split at e
        · cases e
          exact frzL_rel.frzL_live ih e1 j (kill_live h)
        · cases e
      · cases e
    · split at e
      · rename_i ps m1 e1
        split at e
        · cases e
          exact frzL_rel.frzL_live ih e1 j (kill_live h)
        · cases e
      · cases e
    · split at e
      · rename_i ps m1 e1
        split at e
        · cases e
          exact frzL_rel.frzL_live ih e1 j (kill_live h)
        · cases e
      · cases e
    · cases e
theorem rdk_snd {ρ : Rho} {F : Hp} {k : Nat} : ∀ {l : List (P × D)} {vs : List (Key × V)}, RDk g ρ F k l vs → RDs g ρ F k (l.map (·.2)) (vs.map (·.2))
  | [], [], _ => trivial
  | _ :: _, _ :: _, h => ⟨h.1.2, rdk_snd h.2⟩
  | [], _ :: _, h => h.elim
  | _ :: _, [], h => h.elim
theorem rdt_snd {ρ : Rho} {F : Hp} {k : Nat} : ∀ {l : List (P × D)} {vs : List (List Key × V)}, RDt g ρ F k l vs → RDs g ρ F k (l.map (·.2)) (vs.map (·.2))
  | [], [], _ => trivial
  | _ :: _, _ :: _, h => ⟨h.1.2, rdt_snd h.2⟩
  | [], _ :: _, h => h.elim
  | _ :: _, [], h => h.elim
theorem rdf_snd {ρ : Rho} {F : Hp} {k : Nat} : ∀ {l : List (Nat × D)} {vs : List (Str × V)}, RDf g ρ F k l vs → RDs g ρ F k (l.map (·.2)) (vs.map (·.2))
  | [], [], _ => trivial
  | _ :: _, _ :: _, h => ⟨h.1.2, rdf_snd h.2⟩
  | [], _ :: _, h => h.elim
  | _ :: _, [], h => h.elim
theorem rpk_zip {ρ : Rho} {F F' : Hp} {k : Nat} : ∀ {l : List (P × D)} {ps : List P} {vs : List (Key × V)}, RDk g ρ F k l vs → RPs g F' ps (vs.map (·.2)) → RPk g F' ((l.map (·.1)).zip ps) vs
  | [], ps, [], _, r => by cases r; exact .nil
  | d :: l, ps, v :: vs, h, r => by
    cases r with
    | cons r t => exact .cons h.1.1.1 h.1.1.2 r (rpk_zip h.2 t)
  | [], _, _ :: _, h, _ => h.elim
  | _ :: _, _, [], h, _ => h.elim
theorem rpt_zip {ρ : Rho} {F F' : Hp} {k : Nat} : ∀ {l : List (P × D)} {ps : List P} {vs : List (List Key × V)}, RDt g ρ F k l vs → RPs g F' ps (vs.map (·.2)) → RPt g F' ((l.map (·.1)).zip ps) vs
  | [], ps, [], _, r => by cases r; exact .nil
  | d :: l, ps, v :: vs, h, r => by
    cases r with
    | cons r t => exact .cons h.1.1.1 h.1.1.2 r (rpt_zip h.2 t)
  | [], _, _ :: _, h, _ => h.elim
  | _ :: _, _, [], h, _ => h.elim
theorem rpf_zip {ρ : Rho} {F F' : Hp} {k : Nat} : ∀ {l : List (Nat × D)} {ps : List P} {vs : List (Str × V)}, RDf g ρ F k l vs → RPs g F' ps (vs.map (·.2)) → RPf g F' ((l.map (·.1)).zip ps) vs
  | [], ps, [], _, r => by cases r; exact .nil
  | d :: l, ps, (s, v) :: vs, h, r => by
    cases r with
    | cons r t =>
      have e : s = g.fN d.1 := h.1.1
      subst e
      exact .cons r (rpf_zip h.2 t)
  | [], _, _ :: _, h, _ => h.elim
  | _ :: _, _, [], h, _ => h.elim
theorem isSome_get {m : Mem} {n : Nat} (h : (m.get n).isSome = true) : ∃ o, m[n]? = some (some o) := by
  cases e : m.get n with
  | none => rw [e] at h; cases h
  | some o => exact ⟨o, get_some e⟩
theorem kill_ne {m : Mem} {n k : Nat} (hn : n < m.length) (h : Live (m.kill n) k) : k ≠ n := by
  rintro rfl
  obtain ⟨o, e⟩ := h
  unfold Mem.kill at e
  rw [List.getElem?_set_self hn] at e
  cases e
theorem frzN_rel {K : Hp → Prop} : ∀ (k : Nat) (d : D) (m : Mem) (x : P) (m' : Mem) (ρ : Rho) (F : Hp) (v : V) (H : Hp), frzN k d m = some (x, m') → MRel g ρ F m H → RD g ρ F m.length d v → FEnd g ρ F m H m' K fun F' => RP g F' x v
  | 0, .p x, m, y, m', ρ, F, v, H, e, M, r => by
    unfold frzN at e
    cases e
    exact fun k => k F H Ext.refl M (fun _ _ => rfl) r
  | k + 1, .p x, m, y, m', ρ, F, v, H, e, M, r => by
    unfold frzN at e
    cases e
    exact fun k => k F H Ext.refl M (fun _ _ => rfl) r
  | 0, .ref n, m, y, m', ρ, F, v, H, e, M, r => by unfold frzN at e; cases e
  | k + 1, .ref n, m, y, m', ρ, F, v, H, e, M, r => by
    have ih := frzN_rel (K := K) k
    have lv := frzN_live k
    unfold frzN at e
    split at e
    · rename_i l q
      split at e
      · rename_i ps m1 e1
        split at e
        · rename_i hs
          cases e
          obtain ⟨ho, rfl, h1, h2⟩ := M.look q r
          have hz := rmo_line h2
          obtain ⟨vs, rfl, h3⟩ := rmo_lst h2
          obtain ⟨o1, e1'⟩ := isSome_get hs
          have ln := (List.getElem?_eq_some_iff.mp e1').1
          intro kk
          refine frzL_rel lv ih e1 M h3 fun F1 H1 x1 M1 s1 r1 => ?_
          obtain ⟨x2, M2⟩ := step_frz M1 e1' ((s1 n ⟨o1, e1'⟩).trans h1)
          exact kk _ _ (x1.trans x2) M2 (fun j hj => s1 j (kill_live hj)) (.lst (by rw [r1.length, ← h3.length]; exact hz) upd_same (RPs.up x2.Sub r1))
        · cases e
      · cases e
    · rename_i l q
      split at e
      · rename_i ps m1 e1
        split at e
        · rename_i hs
          cases e
          obtain ⟨ho, rfl, h1, h2⟩ := M.look q r
          have hz : l.length ≤ sizeLine := by cases ho <;> first | exact h2.1 | exact (show False from h2).elim
          obtain ⟨vs, rfl, h3⟩ := rmo_dct h2
          obtain ⟨o1, e1'⟩ := isSome_get hs
          have ln := (List.getElem?_eq_some_iff.mp e1').1
          intro kk
          refine frzL_rel lv ih e1 M (rdk_snd h3) fun F1 H1 x1 M1 s1 r1 => ?_
          have hat := (s1 n ⟨o1, e1'⟩).trans h1
          refine .lock hat trivial fun od => ?_
          obtain ⟨x2, M2⟩ := step_frzX (ho' := .frz od (.dK vs)) M1 e1'
          refine kk _ _ (x1.trans x2) M2 (fun j hj => ?_) (.dK (od := od) (by rw [List.length_zip, List.length_map]; omega) upd_same (RPk.up x2.Sub (rpk_zip h3 r1)))
          have jn := kill_ne ln hj
          rw [upd_ne (fun z => jn (M1.inj j n (kill_live hj) ⟨o1, e1'⟩ z))]
          exact s1 j (kill_live hj)
        · cases e
      · cases e
    · rename_i l q
      split at e
      · rename_i ps m1 e1
        split at e
        · rename_i hs
          cases e
          obtain ⟨ho, rfl, h1, h2⟩ := M.look q r
          have hz : l.length ≤ sizeLine := by cases ho <;> first | exact h2.1 | exact (show False from h2).elim
          obtain ⟨vs, rfl, h3⟩ := rmo_dcT h2
          obtain ⟨o1, e1'⟩ := isSome_get hs
          have ln := (List.getElem?_eq_some_iff.mp e1').1
          intro kk
          refine frzL_rel lv ih e1 M (rdt_snd h3) fun F1 H1 x1 M1 s1 r1 => ?_
          have hat := (s1 n ⟨o1, e1'⟩).trans h1
          refine .lock hat trivial fun od => ?_
          obtain ⟨x2, M2⟩ := step_frzX (ho' := .frz od (.dT vs)) M1 e1'
          refine kk _ _ (x1.trans x2) M2 (fun j hj => ?_) (.dT (od := od) (by rw [List.length_zip, List.length_map]; omega) upd_same (RPt.up x2.Sub (rpt_zip h3 r1)))
          have jn := kill_ne ln hj
          rw [upd_ne (fun z => jn (M1.inj j n (kill_live hj) ⟨o1, e1'⟩ z))]
          exact s1 j (kill_live hj)
        · cases e
      · cases e
    · rename_i c l q
      split at e
      · rename_i ps m1 e1
        split at e
        · rename_i hs
          cases e
          obtain ⟨ho, rfl, h1, h2⟩ := M.look q r
          obtain ⟨dx, fs, rfl, hc, h3⟩ := rmo_ins h2
          obtain ⟨o1, e1'⟩ := isSome_get hs
          intro kk
          refine frzL_rel lv ih e1 M (rdf_snd h3) fun F1 H1 x1 M1 s1 r1 => ?_
          obtain ⟨x2, M2⟩ := step_frz M1 e1' ((s1 n ⟨o1, e1'⟩).trans h1)
          exact kk _ _ (x1.trans x2) M2 (fun j hj => s1 j (kill_live hj)) (.ins hc upd_same (RPf.up x2.Sub (rpf_zip h3 r1)))
        · cases e
      · cases e
    · cases e
theorem frz_post {ρ : Rho} {F H : Hp} {m : Mem} {Q : VK} {E : XK} {d : D} {v : V} (M : MRel g ρ F m H) (r : RD g ρ F m.length d v) (h : PostD g ρ F m H (frzS d m) Q E) : Frzb (Q v) H := by
  unfold frzS at h
  split at h
  · rename_i x m' e
    exact frzN_rel 5 d m x m' ρ F v H e M r fun F' H' x1 M1 _ r1 => .done (h _ _ _ _ x1 M1 r1)
  · exact h.elim
theorem e_frz {a : Expr} {ra : Sl → Mem → R D} (ha : PE X a (rdE g W ra)) : PE X a (rdE g W fun δ m => trimR m ((ra δ m).bind frzS)) :=
  (pe_freeze ha).imp fun σ H Q ⟨δ, m, ρ, F, M, rs, P⟩ => rdX.bind (rb := fun x _ m => frzS x m) ⟨δ, m, ρ, F, M, rs, trim_post M P⟩ fun δ d m ρ F v H' M rs r P => frz_post M r P
/-! ### argument lists -/
theorem a_nil : PA X [] (rdA g W fun _ m => .ok [] m) := pa_nil.imp fun σ H Q ⟨δ, m, ρ, F, M, rs, P⟩ => P.val M trivial
def noStar : Expr → Bool
  | .Starred .. => false
  | _ => true
theorem star_cons {e : Expr} {es : List Expr} {env : Env} (h : noStar e = true) : starEach (e :: es) env = (false, eval e env) :: starEach es env := by cases e <;> first | rfl | cases h
theorem a_cons {e : Expr} {es : List Expr} {ra : Sl → Mem → R D} {rl : Sl → Mem → R (List D)} (he : PE X e (rdE g W ra)) (hl : PA X es (rdA g W rl)) (hn : noStar e = true) :
    PA X (e :: es) (rdA g W fun δ m => (ra δ m).bind fun x m => (rl δ m).bind fun xs m => .ok (x :: xs) m) := by
  refine (pa_cons he hl (star_cons hn)).imp fun σ H Q h => rdX.bind h fun δ d m ρ F v H' M rs r P => ?_
  exact ⟨δ, m, ρ, F, M, rs, P.bind fun l m2 vs H2 ρ2 F2 x2 M2 r2 P2 => P2.val M2 ⟨r.mono x2, r2⟩⟩
theorem seqD_any (c : Cok g T p lv X W cd) {ρ : Rho} {F H : Hp} {m : Mem} (M : MRel g ρ F m H) {d : D} {l : List D} {v : V} (e : seqD m d = some l) (r : RD g ρ F m.length d v) : ∃ a vs, v = .ref a ∧ RDs g ρ F m.length l vs ∧ (SqT X.K H a vs ∨ SqL X.K H a vs) := by
  obtain ⟨a, vs, _, e1, r1, q⟩ := seqD_ok M e r
  refine ⟨a, vs, e1, r1, ?_⟩
  rw [c.K]
  rcases q with ⟨q, _⟩ | ⟨q, _⟩
  · exact .inr (SqL.of q)
  · exact .inl q
theorem a_star (c : Cok g T p lv X W cd) {e : Expr} {es : List Expr} {ps : Pos} {ra : Sl → Mem → R D} {rl : Sl → Mem → R (List D)} (he : PE X e (rdE g W ra)) (hl : PA X es (rdA g W rl)) :
    PA X (.Starred e ps :: es) (rdA g W fun δ m => (ra δ m).bind fun x m => (oR (seqD m x) m).bind fun ys m => (rl δ m).bind fun xs m => .ok (ys ++ xs) m) := by
  refine (StX.pa_star he hl).imp fun σ H Q h => rdX.bind h fun δ d m ρ F v H' M rs r P => ?_
  unfold oR at P
  split at P
  · rename_i l e1
    obtain ⟨a, vs, rfl, r1, q⟩ := seqD_any c M e1 r
    refine ⟨a, vs, rfl, q, δ, m, ρ, F, M, rs, Post.bind P fun l2 m2 vs2 H2 ρ2 F2 x2 M2 r2 P2 => P2.val M2 ((r1.mono x2).append r2)⟩
  · exact P.elim
theorem e_tup {es : List Expr} {k : Nat} {pos : Pos} {pl : Bool} {rl : Sl → Mem → R (List D)} (hp : ∀ δ m xs m', rl δ m = .ok xs m' → pl = true → xs.length ≤ sizeLine) (hl : PA X es (rdA g W rl)) : PE X (.Tuple es k pos) (rdE g W fun δ m => (rl δ m).bind (lnS pl mkT)) :=
  (pe_tup hl).imp fun _ _ _ h => rdX.bindE h fun δ m0 d m e ρ F v H' M rs r P => by
    obtain ⟨l, P⟩ := lnS_post (hp δ m0 d m e) P
    exact mkT_post l P M r
theorem e_lst {es : List Expr} {mu : Bool} {pos : Pos} {pl : Bool} {rl : Sl → Mem → R (List D)} (hp : ∀ δ m xs m', rl δ m = .ok xs m' → pl = true → xs.length ≤ sizeLine) (hl : PA X es (rdA g W rl)) : PE X (.List es pos) (rdE g W fun δ m => (rl δ m).bind (lnS pl (mkL mu))) :=
  (pe_lst hl).imp fun _ _ _ h => rdX.bindE h fun δ m0 d m e ρ F v H' M rs r P => by
    obtain ⟨l, P⟩ := lnS_post (hp δ m0 d m e) P
    exact mkL_post l P M r
end
end Dn

/-! Dn, part I: calls. -/
namespace Dn
open PySem PySem.Spec PyProof.Rows L2
section
variable {g : Gn} {W : WX} {X : Cx} {T : Tb} {p : Pg} {lv : Nat} {cd : Cd}

theorem plain_any {es : List Expr} {pos : Pos} {env : Env} (h : es.all noStar = true) : (backTo pos (starEach es env)).any (·.1) = false := by
  induction es with
  | nil => rfl
  | cons e es ih =>
    rw [List.all_cons, Bool.and_eq_true] at h
    rw [star_cons h.1]
    show (false || (backTo pos (starEach es env)).any (·.1)) = false
    rw [ih h.2]
    rfl
theorem star_any' {es : List Expr} {pos : Pos} {env : Env} (h : es.all noStar = false) : (backTo pos (starEach es env)).any (·.1) = true := by
  induction es with
  | nil => cases h
  | cons e es ih =>
    rw [List.all_cons] at h
    cases q : noStar e with
    | true =>
      rw [q] at h
      rw [star_cons q]
      show (false || (backTo pos (starEach es env)).any (·.1)) = true
      rw [ih h]
      rfl
    | false => cases e <;> first | rfl | cases q
/-- the callee runs -/
theorem code_own (c : Cok g T p lv X W cd) {f : Nat} {a : Addr} {pins : List (Addr × Obj)} {σ : L2.St} {H : Hp} {s : Shared} {Q : VK} {us : List Value} {vs : List V}
    (Fn : Fnr g p lv X a f)
    (I : Inv X pins σ H s) (r : Vals vs us) {ds : List D} {m : Mem} {ρ : Rho} {F : Hp} (M : MRel g ρ F m H) (rd : RDs g ρ F m.length ds vs) (h : PostD g ρ F m H (callAt p lv f ds m) Q (WE W σ)) :
    codeAny (model X.prog X.w) X.A (.call (.ref a) ⟨us, []⟩) (wants (EP X pins σ Q) X.xe) s := by
  refine codeAny_mono (Fn X.A X.stack s H us vs Q (WE W σ) (c.room.mono (by omega)) I.env0 r ⟨ds, m, ρ, F, M, rd, h⟩) fun r s' hq => ?_
  cases r with
  | error e => exact c.tk e s' (XE.of_call I (fun _ _ _ h => h) hq)
  | ok fl =>
    cases fl with
    | ret u => exact I.after hq
    | next => exact False.elim hq
    | brk => exact False.elim hq
    | cont => exact False.elim hq
theorem run_own (c : Cok g T p lv X W cd) {f : Nat} {a : Addr} {pins : List (Addr × Obj)} {σ : L2.St} {H : Hp} {s : Shared} {Q : VK} {us : List Value} {vs : List V}
    (Fn : Fnr g p lv X a f)
    (I : Inv X pins σ H s) (r : Vals vs us) {ds : List D} {m : Mem} {ρ : Rho} {F : Hp} (M : MRel g ρ F m H) (rd : RDs g ρ F m.length ds vs) (h : PostD g ρ F m H (callAt p lv f ds m) Q (WE W σ)) :
    wpAny (model X.prog X.w) X.A (call (.ref a) us) (EP X pins σ Q) X.xe s := wpAny_call (code_own c Fn I r M rd h)
theorem e_call (c : Cok g T p lv X W cd) {f : Nat} {x : Str} {np pos : Pos} {e : Expr} {es : List Expr} {rl : Sl → Mem → R (List D)} (hf : T.fn f = some x) (hv : isGl cd x = true) (hd : nodb x = true) (hl : PA X (e :: es) (rdA g W rl)) (hn : noStar e = true) :
    PE X (.Call (.Name x np) (e :: es) [] pos) (rdE g W fun δ m => (rl δ m).bind (callAt p lv f)) := by
  obtain ⟨a, h1, h2, Fn⟩ := c.call f x hf
  refine ⟨fun pins s σ H Q I h => ?_⟩
  refine wpAny_Call_Name_kw (ld_glob I (c.glb hv) h1 ?_ (nodb_ok hd).1)
  have h' : rdA g W rl σ H fun vs H1 => ∃ ds m ρ F, MRel g ρ F m H1 ∧ RDs g ρ F m.length ds vs ∧ PostD g ρ F m H1 (callAt p lv f ds m) Q (WE W σ) :=
    rdX.bind h fun δ d m ρ F v H' M rs r P => ⟨d, m, ρ, F, M, r, P⟩
  have k := thn (hl.run pos pins s σ H _ I h') fun us s1 ⟨vs, H1, I1, r, ds, m, ρ, F, M, rd, q⟩ => (⟨I1.kIn, run_own c Fn I1 r M rd q⟩ : X.K.In s1.heap ∧ wpAny (model X.prog X.w) X.A (call (.ref a) us) (EP X pins σ Q) X.xe s1)
  cases q : es.all noStar with
  | true => exact PySem.W.callWith_K (h₀ := X.base) I.ok.mod.kin h2 k (star_cons hn) (plain_any q)
  | false => exact PySem.W.callWith_S2 (h₀ := X.base) (first := []) I.ok.mod.kin h2 k (star_cons hn) (star_any' q)
theorem e_call0 (c : Cok g T p lv X W cd) {f : Nat} {x : Str} {np pos : Pos} (hf : T.fn f = some x) (hv : isGl cd x = true) (hd : nodb x = true) :
    PE X (.Call (.Name x np) [] [] pos) (rdE g W fun δ m => (R.ok [] m).bind (callAt p lv f)) := by
  obtain ⟨a, h1, h2, Fn⟩ := c.call f x hf
  refine ⟨fun pins s σ H Q I ⟨δ, m, ρ, F, M, rs, P⟩ => ?_⟩
  refine wpAny_Call_Name_kw (ld_glob I (c.glb hv) h1 ?_ (nodb_ok hd).1)
  exact PySem.W.callWith_K0 I.kIn h2 (run_own c Fn (us := []) I .nil M (ds := []) trivial P)

/-! ### built-in functions -/
theorem bf_bl (c : Cok g T p lv X W cd) (f : BF) : X.mg (Str.ofString (bfN f)) = none := c.bl (bfN f) (by cases f <;> decide)
theorem bf_boot (f : BF) : bootBuiltins (Str.ofString (bfN f)) = some (bfV f) := by
  cases f with
  | len => exact bootS_len
  | int => exact boot_int
  | abs => exact boot_abs
  | list => exact boot_list
  | listM => exact boot_list
  | tuple => exact boot_tuple
  | all => exact boot_all
  | any => exact boot_any
  | sum => exact boot_sum
  | str => exact boot_str
  | repr => kernel_rfl
  | sorted => kernel_rfl
  | min => kernel_rfl
  | max => kernel_rfl
theorem bf_nn (f : BF) : Str.ofString (bfN f) ≠ "__name__" ∧ (Str.ofString (bfN f) == ("__debug__" : Str)) = false := by cases f <;> exact ⟨by decide, by decide⟩
theorem ansI_ok {ρ : Rho} {F H : Hp} {m : Mem} {d : D} {v : V} {Q : VK} {E : XK} (h : PostD g ρ F m H (ansI d m) Q E) (M : MRel g ρ F m H) (r : RD g ρ F m.length d v) : ∃ n : Int, v = .int n ∧ (0 ≤ n ∧ n < 2 ^ 63) ∧ Q (.int n) H := by
  unfold ansI at h
  split at h
  · split at h
    · rename_i z
      cases r; exact ⟨_, rfl, z, h.val M (RP.int _)⟩
    · exact h.elim
  · exact h.elim
theorem ansS_ok {ρ : Rho} {F H : Hp} {m : Mem} {d : D} {v : V} {Q : VK} {E : XK} (h : PostD g ρ F m H (ansS d m) Q E) (M : MRel g ρ F m H) (r : RD g ρ F m.length d v) : ∃ z, v = .str z ∧ Q (.str z) H := by
  unfold ansS at h
  split at h
  · cases r with | str z hz => exact ⟨_, rfl, h.val M (RP.str _ hz)⟩
  · exact h.elim
theorem bclO_ok (c : Cok g T p lv X W cd) (f : BF) : CallR X (bfV f) (rdN g (bclO (callAt p lv) p.gv f)) := by
  have base : ∀ f, CallR X (bfV f) (rdN g (bclS f)) := bcl_ok c.K c.calm
  rintro pins s σ H xs us Q I r ⟨ds, m, ρ, F, E, M, rs, h⟩
  have other : PostD g ρ F m H (bclS f ds m) Q E → wpAny (model X.prog X.w) X.A (call (bfV f) us) (EP X pins σ Q) X.xe s := fun h => base f pins s σ H xs us Q I r ⟨ds, m, ρ, F, E, M, rs, h⟩
  unfold bclO at h
  split at h
  · rename_i d
    match xs, rs with
    | [x], rs =>
      obtain ⟨u, rfl, ru⟩ := vals1 r
      split at h
      · rename_i cn ec
        split at h
        · rename_i fn ef
          obtain ⟨a, dx, fs, rfl, ha, hc⟩ := ins_at M ec rs.1
          cases (show u = Value.ref a from ru)
          obtain ⟨mA, O, _⟩ := ins_get I.hok ha
          obtain ⟨od, J, _⟩ := O.look
          obtain ⟨g1, g2, g3, Fn⟩ := c.om cn 0 fn ef
          obtain ⟨ms, hF⟩ := I.fr
          refine PySem.W.len_K hF I.ok.mod.kin J g2 g3 ?_
          refine wpAny_mono (run_calm c (c.room.in1.mono (by omega)) rfl Fn I (vs := [.ref a]) (.cons rfl .nil) M rs (Q := fun v H' => ∃ n : Int, v = .int n ∧ (0 ≤ n ∧ n < 2 ^ 63) ∧ Q (.int n) H') (h.bind fun r m' w H' ρ' F' x M' rr P => ansI_ok P M' rr)) (fun w s' z => ?_) fun _ _ x => x
          obtain ⟨w', H', I', rw', n, rfl, hn, q⟩ := z
          obtain ⟨t, e⟩ := (show ∃ t, w = Value.int n t from rw')
          subst e
          exact ⟨hn, .int n, H', I'.tok _, ⟨_, rfl⟩, q⟩
        · exact h.elim
      · exact other h
  · rename_i d
    match xs, rs with
    | [x], rs =>
      obtain ⟨u, rfl, ru⟩ := vals1 r
      split at h
      · rename_i cn ec
        split at h
        · rename_i fn ef
          obtain ⟨a, dx, fs, rfl, ha, hc⟩ := ins_at M ec rs.1
          cases (show u = Value.ref a from ru)
          obtain ⟨mA, O, _⟩ := ins_get I.hok ha
          obtain ⟨od, J, _⟩ := O.look
          obtain ⟨g1, g2, g3, Fn⟩ := c.om cn 1 fn ef
          obtain ⟨ms, hF⟩ := I.fr
          refine PySem.W.repr_K (by have := c.room.in1.units0; exact this) hF I.ok.mod.kin J g2 g3 ?_
          refine wpAny_mono (run_calm c (c.room.in1.mono (by omega)) rfl Fn I (vs := [.ref a]) (.cons rfl .nil) M rs (Q := fun v H' => ∃ z, v = .str z ∧ Q (.str z) H') (h.bind fun r m' w H' ρ' F' x M' rr P => ansS_ok P M' rr)) (fun w s' z => ?_) fun _ _ x => x
          obtain ⟨w', H', I', rw', n, rfl, q⟩ := z
          obtain ⟨t, e⟩ := (show ∃ t, w = Value.str n t from rw')
          subst e
          exact ⟨.str n, H', I', ⟨_, rfl⟩, q⟩
        · exact h.elim
      · exact other h
  · exact other h
theorem e_bcl (c : Cok g T p lv X W cd) {f : BF} {x : Str} {np pos : Pos} {e : Expr} {es : List Expr} {rl : Sl → Mem → R (List D)} (hf : x = Str.ofString (bfN f)) (hv : isGl cd x = true) (hl : PA X (e :: es) (rdA g W rl)) (hn : noStar e = true) (hs : es.all noStar = true) :
    PE X (.Call (.Name x np) (e :: es) [] pos) (rdE g W fun δ m => (rl δ m).bind (bclO (callAt p lv) p.gv f)) := by
  subst hf
  have k : ∀ {σ H Q}, rdE g W (fun δ m => (rl δ m).bind (bclO (callAt p lv) p.gv f)) σ H Q → tCB (rdN g (bclO (callAt p lv) p.gv f)) (rdA g W rl) σ H Q := fun h => rdX.bind h fun δ d m ρ F v H' M rs r P => ⟨d, m, ρ, F, _, M, r, P⟩
  have ok := bclO_ok c f
  have bt := bf_boot f
  unfold bfV at ok bt
  split at ok
  · rename_i z
    rw [if_pos z] at bt
    exact (pe_callTy ok (c.glb hv) (bf_bl c f) bt hl (bf_nn f).1 (bf_nn f).2 (star_cons hn) (plain_any hs)).imp fun _ _ _ h => k h
  · rename_i z
    rw [if_neg z] at bt
    exact (pe_callB ok (c.glb hv) (bf_bl c f) bt hl (bf_nn f).1 (bf_nn f).2 (star_cons hn) (plain_any hs)).imp fun _ _ _ h => k h

/-! ### methods of built-in types -/
def noSup : Expr → Bool
  | .Call (.Name _ _) [] [] _ => false
  | _ => true
theorem noSup_ok {o : Expr} {a : Str} {env : Env} {w : Sem Value} (h : noSup o = true) : attributeBase o a env w = w := by
  unfold attributeBase
  split
  · cases h
  · rfl
def bmT : BM → String
  | .append => "list" | .reverse => "list" | .clear => "list" | .extend => "list" | .insert => "list" | .pop => "list" | .index => "list"
  | _ => "str"
def bmN : BM → String
  | .join => "join" | .append => "append" | .reverse => "reverse" | .clear => "clear" | .split => "split" | .extend => "extend" | .insert => "insert" | .pop => "pop" | .index => "index"
def bmI : BM → String
  | .join => "str.join" | .append => "list.append" | .reverse => "list.reverse" | .clear => "list.clear" | .split => "str.split" | .extend => "list.extend" | .insert => "list.insert" | .pop => "list.pop" | .index => "list.index"
theorem bm_attrs (f : BM) : PlainAttrs (bmT f) := by cases f <;> first | exact F.plainAttrs_list | exact F.plainAttrs_str
theorem bm_slot (f : BM) : Slot (bmT f) (Str.ofString (bmN f)) (bmI f) := by
  cases f with
  | join => exact F.slot_str_join
  | append => exact F.slot_list_append
  | reverse => exact F.slot_list_reverse
  | clear => exact F.slot_list_clear
  | split => exact F.slot_str_split
  | extend => exact F.slot_list_extend
  | insert => exact F.slot_list_insert
  | pop => exact F.slot_list_pop
  | index => exact F.slot_list_index
theorem bm_type (f : BM) : typeOf (.builtin (bmI f)) = pure (.type "method_descriptor") := by
  cases f with
  | join => exact F.type_str_join
  | append => exact F.type_list_append
  | reverse => exact F.type_list_reverse
  | clear => exact F.type_list_clear
  | split => exact F.type_str_split
  | extend => exact F.type_list_extend
  | insert => exact F.type_list_insert
  | pop => exact F.type_list_pop
  | index => exact F.type_list_index
theorem extend_ok : MtR X "list.extend" (rdM g (bmtS .extend)) := by
  rintro pins s σ H x xs v us Q I rx rs ⟨d, ds, m, ρ, F, E, M, hd, hs, h⟩
  have h : PostD g ρ F m H (extendS d ds m) Q E := h
  unfold extendS at h
  split at h
  · match xs, hs with
    | [y'], hs =>
      split at h
      · rename_i l e
        split at h
        · rename_i il
          split at h
          · rename_i ys ey
            split at h
            · rename_i hz
              obtain ⟨ho, rfl, h1, h2⟩ := M.look e hd
              obtain ⟨vs, rfl, h3⟩ := rmo_lst h2
              obtain ⟨b, ws, _, rfl, r1, q⟩ := seqD_ok M ey hs.1
              have hb : H b = some (.lst ws) := by
                rcases q with ⟨k, _⟩ | ⟨_, ps, z⟩
                · exact k
                · rcases z with z | z <;> (subst z; cases il)
              obtain ⟨x1, M1⟩ := step_put (o' := .lst (l ++ ys)) (ho := .lst (vs ++ ws)) M (get_some e) ⟨by rw [List.length_append]; exact hz, h3.append r1⟩
              exact mt_extend pins s σ H _ _ v us Q I rx rs ⟨_, b, _, _, rfl, rfl, h1, hb, by rw [← h3.length, ← r1.length]; exact hz, h _ _ _ _ x1 M1 RP.non⟩
            · exact h.elim
          · exact h.elim
        · exact h.elim
      · exact h.elim
  · exact h.elim
theorem insert_ok : MtR X "list.insert" (rdM g (bmtS .insert)) := by
  rintro pins s σ H x xs v us Q I rx rs ⟨d, ds, m, ρ, F, E, M, hd, hs, h⟩
  have h : PostD g ρ F m H (insertS d ds m) Q E := h
  unfold insertS at h
  split at h
  · rename_i n ii y h0
    match xs, hs with
    | [i', y'], hs =>
      cases hs.1
      split at h
      · rename_i l e
        split at h
        · rename_i hz
          obtain ⟨ho, rfl, h1, h2⟩ := M.look e hd
          obtain ⟨vs, rfl, h3⟩ := rmo_lst h2
          have rd : RDs g ρ F m.length (l.take ii.toNat ++ [y] ++ l.drop ii.toNat) (vs.take ii.toNat ++ [y'] ++ vs.drop ii.toNat) := ((RDs.take ii.toNat h3).append (show RDs g ρ F m.length [y] [y'] from ⟨hs.2.1, trivial⟩)).append (RDs.drop ii.toNat h3)
          obtain ⟨x1, M1⟩ := step_put (o' := .lst (l.take ii.toNat ++ [y] ++ l.drop ii.toNat)) (ho := .lst (vs.take ii.toNat ++ [y'] ++ vs.drop ii.toNat)) M (get_some e) ⟨by rw [List.length_append, List.length_append, List.length_take, List.length_drop, List.length_singleton]; have := hz.1; omega, rd⟩
          exact mt_insert pins s σ H _ _ v us Q I rx rs ⟨_, _, _, _, rfl, rfl, h1, by rw [← h3.length]; exact hz.1, hz.2.1, hz.2.2, h _ _ _ _ x1 M1 RP.non⟩
        · exact h.elim
      · exact h.elim
  · exact h.elim
theorem pop_ok : MtR X "list.pop" (rdM g (bmtS .pop)) := by
  rintro pins s σ H x xs v us Q I rx rs ⟨d, ds, m, ρ, F, E, M, hd, hs, h⟩
  have h : PostD g ρ F m H (popS d ds m) Q E := h
  unfold popS at h
  split at h
  · match xs, hs with
    | [], _ =>
      split at h
      · rename_i l e
        split at h
        · rename_i y ey
          obtain ⟨ho, rfl, h1, h2⟩ := M.look e hd
          have hz := rmo_line h2
          obtain ⟨vs, rfl, h3⟩ := rmo_lst h2
          obtain ⟨w, ew, rw_⟩ := h3.get ey
          have rd : RDs g ρ F m.length l.dropLast vs.dropLast := by
            rw [List.dropLast_eq_take, List.dropLast_eq_take, ← h3.length]
            exact RDs.take _ h3
          obtain ⟨x1, M1⟩ := step_put (o' := .lst l.dropLast) (ho := .lst vs.dropLast) M (get_some e) ⟨by rw [List.length_dropLast]; omega, rd⟩
          exact mt_pop pins s σ H _ _ v us Q I rx rs ⟨_, _, w, rfl, rfl, h1, by rw [← h3.length]; exact ew, h _ _ _ _ x1 M1 (rw_.mono x1)⟩
        · exact h.elim
      · exact h.elim
  · exact h.elim
theorem index_ok (hK : X.K = g.K) (hu : X.A.units + 65 < cLine) : MtR X "list.index" (rdM g (bmtS .index)) := by
  rintro pins s σ H x xs v us Q I rx rs ⟨d, ds, m, ρ, F, E, M, hd, hs, h⟩
  have h : PostD g ρ F m H (indexS d ds m) Q E := h
  unfold indexS at h
  split at h
  · rename_i y h'
    match xs, hs with
    | [y'], hs =>
      split at h
      · rename_i l e
        split at h
        · rename_i hz
          split at h
          · rename_i j ej
            obtain ⟨a, vs, rfl, h1, t, hl⟩ := lstP_ok M e hd
            have ry : RP g H y y' := RP.up M.sub hs.1
            have hj := (List.findIdx?_eq_some_iff_getElem (xs := l)).mp ej
            obtain ⟨hjl, hj1, hj2⟩ := hj
            refine mt_indexD hu pins s σ H _ _ v us Q I rx rs ⟨a, y', y.py, pyL l, j, l[j].py, rfl, rfl, by rw [hK]; exact .lst (SqL.of h1) (RPs.dp (shp_dat hz.2) t), by rw [hK]; exact RP.dp (shp_dat hz.1) ry, shp_sh hz.2, shp_sh hz.1, ?_, hj1, fun k z hk ez => ?_, h.val M (RP.int _)⟩
            · rw [pyL_map, List.getElem?_map, List.getElem?_eq_getElem hjl]; rfl
            · rw [pyL_map, List.getElem?_map] at ez
              obtain ⟨w, ew, rfl⟩ := Option.map_eq_some_iff.mp ez
              obtain ⟨hk2, rfl⟩ := List.getElem?_eq_some_iff.mp ew
              simpa using hj2 k hk
          · exact h.elim
        · exact h.elim
      · exact h.elim
  · exact h.elim
theorem bm_ok (hK : X.K = g.K) (hu : X.A.units + 65 < cLine) (f : BM) : MtR X (bmI f) (rdM g (bmtS f)) := by
  cases f with
  | join => exact join_ok hK
  | append => exact append_ok
  | reverse => exact reverse_ok
  | clear => exact clear_ok
  | split => exact split_ok
  | extend => exact extend_ok
  | insert => exact insert_ok
  | pop => exact pop_ok
  | index => exact index_ok hK hu
theorem bm_ty (hK : X.K = g.K) {f : BM} {ρ : Rho} {F H : Hp} {m : Mem} {d : D} {v : V} (M : MRel g ρ F m H) (r : RD g ρ F m.length d v) (h : bmPre f d m = true) : L2.tyV X.K (bmT f) v H := by
  unfold bmPre at h
  split at h
  · cases r
    show bmT f = "str"
    cases f <;> first | rfl | cases h
  · cases r with
    | lst hz h1 t =>
      refine .inl ⟨?_, _, SqL.of (M.sub.lst h1)⟩
      cases f <;> first | rfl | cases h
  · rename_i n
    split at h
    · rename_i l e
      obtain ⟨ho, rfl, h1, h2⟩ := M.look e r
      obtain ⟨vs, rfl, h3⟩ := rmo_lst h2
      refine .inl ⟨?_, vs, SqL.of h1⟩
      cases f <;> first | rfl | cases h
    · cases h
  · cases h
theorem few_ok {es : List Expr} {pos : Pos} {env : Env} (h : es.all noStar = true) (hl : es.length < 30) : ((backTo pos (starEach es env)).all (fun x => !x.1) && (backToKw pos (keywordEach [] env)).all (fun x => x.1.isSome) && decide (es.length + ([] : List Keyword).length + (if ([] : List Keyword).isEmpty then 0 else 1) < 30)) = true := by
  have e1 : (backTo pos (starEach es env)).all (fun x => !x.1) = true := by
    have := plain_any (pos := pos) (env := env) h
    rw [List.all_eq_not_any_not]
    simp only [Bool.not_not]
    rw [this]
    rfl
  rw [e1, Bool.true_and, Bool.and_eq_true]
  exact ⟨rfl, decide_eq_true (by simpa using hl)⟩
theorem e_bmt (c : Cok g T p lv X W cd) {f : BM} {a e : Expr} {es : List Expr} {x : Str} {ap pos : Pos} {ra : Sl → Mem → R D} {rl : Sl → Mem → R (List D)} (hx : x = Str.ofString (bmN f)) (ha : PE X a (rdE g W ra)) (hl : PA X (e :: es) (rdA g W rl)) (hs : (e :: es).all noStar = true) (hlen : (e :: es).length < 30) (hb : noSup a = true) (hp : (ap.endLine == pos.line) = true) :
    PE X (.Call (.Attribute a x ap) (e :: es) [] pos) (rdE g W fun δ m => (ra δ m).bind fun x m => if bmPre f x m = true then (rl δ m).bind (bmtS f x) else .no) := by
  subst hx
  have hs' : noStar e = true ∧ es.all noStar = true := by rw [List.all_cons, Bool.and_eq_true] at hs; exact hs
  refine (pe_bm (bm_attrs f) (bm_slot f) (bm_type f) (bm_ok c.K c.hu f) ha hl (noSup_ok hb) (few_ok hs hlen) hp (star_cons hs'.1) (plain_any hs'.2)).imp fun σ H Q h => rdX.bind h fun δ d m ρ F v H' M rs r P => ?_
  split at P
  · rename_i hpre
    refine ⟨bm_ty c.K M r hpre, δ, m, ρ, F, M, rs, P.bind fun ds m2 vs H2 ρ2 F2 x2 M2 r2 P2 => ⟨d, ds, m2, ρ2, F2, _, M2, r.mono x2, r2, P2⟩⟩
  · exact P.elim

theorem e_bmt0 (c : Cok g T p lv X W cd) {f : BM} {a : Expr} {x : Str} {ap pos : Pos} {ra : Sl → Mem → R D} (hx : x = Str.ofString (bmN f)) (ha : PE X a (rdE g W ra)) (hb : noSup a = true) (hp : (ap.endLine == pos.line) = true) :
    PE X (.Call (.Attribute a x ap) [] [] pos) (rdE g W fun δ m => (ra δ m).bind fun x m => if bmPre f x m = true then (R.ok [] m).bind (bmtS f x) else .no) := by
  subst hx
  refine (pe_bm0 (bm_attrs f) (bm_slot f) (bm_type f) (bm_ok c.K c.hu f) ha (noSup_ok hb) hp).imp fun σ H Q h => rdX.bind h fun δ d m ρ F v H' M rs r P => ?_
  split at P
  · rename_i hpre
    exact ⟨bm_ty c.K M r hpre, d, [], m, ρ, F, _, M, r, trivial, P⟩
  · exact P.elim
/-! ### isinstance -/
def tyN (T : Tb) : Ty → Option Str
  | .own c => T.cn c
  | t => some (Str.ofString (tyS t))
theorem e_ty (c : Cok g T p lv X W cd) {t : Ty} {x : Str} {pos : Pos} (h : tyN T t = some x) (hv : isGl cd x = true) (hd : nodb x = true) : PE X (.Name x pos) (tC (tyV g t)) ∧ tyOk g t = true := by
  cases t with
  | own n =>
    obtain ⟨h1, h2⟩ := c.cn n x h
    exact ⟨pe_glob (c.glb hv) h1 rfl (nodb_ok hd).1, h2⟩
  | int => cases h; exact ⟨pe_bltn (c.glb hv) (c.bl "int" (by decide)) boot_int rfl (by decide) (nodb_ok hd).1, rfl⟩
  | bool => cases h; exact ⟨pe_bltn (c.glb hv) (c.bl "bool" (by decide)) boot_bool rfl (by decide) (nodb_ok hd).1, rfl⟩
  | str => cases h; exact ⟨pe_bltn (c.glb hv) (c.bl "str" (by decide)) boot_str rfl (by decide) (nodb_ok hd).1, rfl⟩
  | list => cases h; exact ⟨pe_bltn (c.glb hv) (c.bl "list" (by decide)) boot_list rfl (by decide) (nodb_ok hd).1, rfl⟩
  | tuple => cases h; exact ⟨pe_bltn (c.glb hv) (c.bl "tuple" (by decide)) boot_tuple rfl (by decide) (nodb_ok hd).1, rfl⟩
  | dict => cases h; exact ⟨pe_bltn (c.glb hv) (c.bl "dict" (by decide)) boot_dict rfl (by decide) (nodb_ok hd).1, rfl⟩
/-- the names of classes -/
def tysOk (T : Tb) (cd : Cd) : List Ty → List Expr → Bool
  | [], [] => true
  | t :: l, .Name x _ :: es => (match tyN T t with | some y => decide (x = y) | none => false) && isGl cd x && nodb x && tysOk T cd l es
  | _, _ => false
def tCs : List V → TA
  | [] => tNil
  | v :: vs => tCons (tC v) (tCs vs)
theorem tCs_q {σ : L2.St} {H : Hp} {Q : List V → Hp → Prop} : ∀ {vs : List V}, Q vs H → tCs vs σ H Q
  | [], h => h
  | v :: vs, h => tCs_q (vs := vs) (Q := fun xs H2 => Q (v :: xs) H2) h
theorem a_tys (c : Cok g T p lv X W cd) : ∀ {l : List Ty} {es : List Expr}, tysOk T cd l es = true → PA X es (tCs (l.map (tyV g))) ∧ l.all (tyOk g) = true
  | [], [], _ => ⟨pa_nil, rfl⟩
  | t :: l, .Name x pos :: es, h => by
    unfold tysOk at h
    rw [Bool.and_eq_true, Bool.and_eq_true, Bool.and_eq_true] at h
    obtain ⟨⟨⟨h1, h2⟩, h3⟩, h4⟩ := h
    split at h1
    · rename_i y ey
      have := of_decide_eq_true h1
      subst this
      obtain ⟨e1, e2⟩ := e_ty c (pos := pos) ey h2 h3
      obtain ⟨e3, e4⟩ := a_tys c h4
      exact ⟨pa_cons e1 e3 rfl, by rw [List.all_cons, e2, e4]; rfl⟩
    · cases h1
theorem oB_kind {l : List Ty} {d : D} {m : Mem} {b : Bool} (hl : l ≠ []) (h : isTys l d m = some b) : ∃ k, kindS d m = some k := by
  cases l with
  | nil => exact absurd rfl hl
  | cons t l =>
    cases e : kindS d m with
    | some k => exact ⟨k, rfl⟩
    | none =>
      unfold isTys isTy at h
      rw [e] at h
      cases h
theorem e_isi1 (c : Cok g T p lv X W cd) {a e : Expr} {t : Ty} {np pos : Pos} {ra : Sl → Mem → R D} (hv : isGl cd "isinstance" = true) (ha : PE X a (rdE g W ra)) (hn : noStar a = true) (ht : tysOk T cd [t] [e] = true) :
    PE X (.Call (.Name "isinstance" np) [a, e] [] pos) (rdE g W fun δ m => (ra δ m).bind fun x m => oB (isTys [t] x m) m) := by
  obtain ⟨h1, h2⟩ := a_tys c ht
  have hne : noStar e = true := by cases e <;> first | rfl | cases ht
  refine (pe_callB call_isi (c.glb hv) (c.bl "isinstance" (by decide)) boot_isinstance (pa_cons ha h1 (star_cons hn)) (by decide) (by decide) (star_cons hn) (plain_any (by rw [List.all_cons, hne]; rfl))).imp fun σ H Q h => rdX.bind h fun δ d m ρ F v H' M rs r P => ?_
  refine tCs_q ?_
  obtain ⟨b, eb, q⟩ := oB_ok P M
  obtain ⟨k, ek⟩ := oB_kind (by simp) eb
  obtain ⟨k1, k2, k3⟩ := kind_ok c.kf M r ek
  have h2' : tyOk g t = true := by simpa using h2
  have hk := kit_ok c.kf h2' k2 k3
  have : b = isK t k := by
    unfold isTys at eb
    split at eb
    · rename_i e1
      obtain ⟨k', e2, e3⟩ := isTy_kind e1
      rw [ek] at e2; cases e2; cases eb; exact e3
    · rename_i e1
      obtain ⟨k', e2, e3⟩ := isTy_kind e1
      rw [ek] at e2; cases e2; cases eb; exact e3
    · cases eb
  refine ⟨v, tyV g t, kindU g k, tyU g t, b, rfl, ?_, by rw [c.K]; exact k1, by rw [c.K, this]; exact hk, q⟩
  cases t <;> first | exact .ty _ | exact .own _
theorem e_isiT (c : Cok g T p lv X W cd) {a : Expr} {es : List Expr} {l : List Ty} {np pos tp : Pos} {kk : Nat} {ra : Sl → Mem → R D} (hv : isGl cd "isinstance" = true) (ha : PE X a (rdE g W ra)) (hn : noStar a = true) (hl : l ≠ []) (hz : l.length ≤ 100) (ht : tysOk T cd l es = true) :
    PE X (.Call (.Name "isinstance" np) [a, .Tuple es kk tp] [] pos) (rdE g W fun δ m => (ra δ m).bind fun x m => oB (isTys l x m) m) := by
  obtain ⟨h1, h2⟩ := a_tys c ht
  refine (pe_callB call_isiT (c.glb hv) (c.bl "isinstance" (by decide)) boot_isinstance (pa_cons ha (pa_cons (pe_tup h1) pa_nil rfl) (star_cons hn)) (by decide) (by decide) (star_cons hn) rfl).imp fun σ H Q h => rdX.bind h fun δ d m ρ F v H' M rs r P => ?_
  refine tCs_q ⟨by rw [List.length_map]; exact Nat.le_trans hz (by decide), fun a' ha' => ?_⟩
  obtain ⟨x1, M1⟩ := step_pure (ho := .tup (l.map (tyV g))) M ha'
  obtain ⟨b, eb, q⟩ := oB_ok (Post.on x1 P) M1
  obtain ⟨k, ek⟩ := oB_kind hl eb
  obtain ⟨k1, k2, k3⟩ := kind_ok c.kf M1 (r.mono x1) ek
  exact ⟨v, a', l.map (tyV g), kindU g k, l.map (tyU g), b, rfl, upd_same, tys_cls l, by rw [c.K]; exact k1, by rw [c.K]; exact isTys_ok c.kf h2 M1 (r.mono x1) eb ek, q⟩
end
end Dn

/-! Dn, part J: targets, what is walked, comprehensions. -/
namespace Dn
open PySem PySem.Spec PyProof.Rows L2

/-! ### targets -/
mutual
def T.ixs : T → List Nat
  | .nm i => [i]
  | .tp l => TL.ixs l
def TL.ixs : TL → List Nat
  | .nil => []
  | .cons t l => T.ixs t ++ TL.ixs l
end
/-- σ' is σ but at l -/
def Same (l : List Nat) (σ σ' : L2.St) : Prop := σ'.length = σ.length ∧ ∀ i, i ∉ l → σ'[i]? = σ[i]?
theorem Same.refl (l : List Nat) (σ : L2.St) : Same l σ σ := ⟨rfl, fun _ _ => rfl⟩
theorem Same.app {l r : List Nat} {σ σ1 σ2 : L2.St} (h : Same l σ σ1) (k : Same r σ1 σ2) : Same (l ++ r) σ σ2 := ⟨k.1.trans h.1, fun i hi => by
  rw [List.mem_append, not_or] at hi
  exact (k.2 i hi.2).trans (h.2 i hi.1)⟩
def rdG (g : Gn) (t : T) : TG := fun v σ H Q => ∃ d δ m ρ F δ', MRel g ρ F m H ∧ RD g ρ F m.length d v ∧ RSl g ρ F m.length δ σ ∧ asgT t d m δ = some δ' ∧ ∀ σ', RSl g ρ F m.length δ' σ' → Same t.ixs σ σ' → Q σ' H
def rdGs (g : Gn) (t : TL) : TGs := fun vs σ H Q => ∃ ds δ m ρ F δ', MRel g ρ F m H ∧ RDs g ρ F m.length ds vs ∧ RSl g ρ F m.length δ σ ∧ asgTL t ds m δ = some δ' ∧ ∀ σ', RSl g ρ F m.length δ' σ' → Same t.ixs σ σ' → Q σ' H
mutual
def chkT (cd : Cd) : T → Expr → Bool
  | .nm i, e => match e with
    | .Name x _ => decide (cd.N[i]? = some x) && isLoc cd x
    | _ => false
  | .tp l, e => match e with
    | .Tuple es _ _ => chkTL cd l es
    | _ => false
def chkTL (cd : Cd) : TL → List Expr → Bool
  | .nil, l => match l with
    | [] => true
    | _ => false
  | .cons t l, es => match es with
    | e :: es => chkT cd t e && chkTL cd l es
    | [] => false
end
section
variable {g : Gn} {W : WX} {X : Cx} {T' : Tb} {p : Pg} {lv : Nat} {cd : Cd}
/-- no star among the targets -/
theorem tl_noStar : ∀ {l : TL} {es : List Expr}, chkTL cd l es = true → es.all (fun e => match e with | .Name .. => true | .Tuple .. => true | _ => false) = true
  | .nil, [], _ => rfl
  | .nil, _ :: _, h => by cases h
  | .cons t l, [], h => by cases h
  | .cons t l, e :: es, h => by
    unfold chkTL at h
    rw [Bool.and_eq_true] at h
    rw [List.all_cons, tl_noStar h.2, Bool.and_true]
    cases t <;> (unfold chkT at h; cases e <;> first | rfl | (exfalso; exact Bool.false_ne_true h.1))
theorem as_cons {e : Expr} {es : List Expr} {env : Env} (h : (match e with | .Name .. => true | .Tuple .. => true | _ => false) = true) : (assignEach (e :: es) env) = (false, assign e env) :: assignEach es env := by cases e <;> first | rfl | cases h
theorem as_len {env : Env} : ∀ {es : List Expr}, es.all (fun e => match e with | .Name .. => true | .Tuple .. => true | _ => false) = true → (assignEach es env).length = es.length ∧ (assignEach es env).findIdx? (·.1) = none
  | [], _ => ⟨rfl, rfl⟩
  | e :: es, h => by
    rw [List.all_cons, Bool.and_eq_true] at h
    rw [as_cons h.1]
    obtain ⟨h1, h2⟩ := as_len (env := env) h.2
    refine ⟨by rw [List.length_cons, List.length_cons, h1], ?_⟩
    rw [List.findIdx?_cons, h2]
    rfl
theorem tl_len {m : Mem} : ∀ {l : TL} {es : List Expr} {ds : List D} {δ δ' : Sl}, chkTL cd l es = true → asgTL l ds m δ = some δ' → ds.length = es.length
  | .nil, [], [], _, _, _, _ => rfl
  | .nil, [], _ :: _, _, _, _, h => by cases h
  | .nil, _ :: _, _, _, _, h, _ => by cases h
  | .cons t l, [], _, _, _, h, _ => by cases h
  | .cons t l, _ :: _, [], _, _, _, h => by cases h
  | .cons t l, e :: es, d :: ds, δ, δ', h, k => by
    unfold chkTL at h
    rw [Bool.and_eq_true] at h
    unfold asgTL at k
    split at k
    · rw [List.length_cons, List.length_cons, tl_len h.2 k]
    · cases k
mutual
theorem g_ok (c : Cok g T' p lv X W cd) : ∀ {t : T} {e : Expr}, chkT cd t e = true → PG X e (rdG g t)
  | .nm i, e, h => by
    unfold chkT at h
    split at h
    · rename_i x pos
      rw [Bool.and_eq_true] at h
      obtain ⟨h1, h2⟩ := h
      have h1 := of_decide_eq_true h1
      obtain ⟨l1, l2⟩ := c.loc h2
      refine (pg_name c.nd (by rw [c.N]; exact h1) l1 l2).imp fun v σ H Q ⟨d, δ, m, ρ, F, δ', M, r, rs, e1, k⟩ => ?_
      cases e1
      exact k _ (rs.set i r) ⟨by simp, fun j hj => List.getElem?_set_ne (fun z => hj (by simp [T.ixs, z]))⟩
    · cases h
  | .tp l, e, h => by
    unfold chkT at h
    split at h
    · rename_i es kk pos
      have ns := tl_noStar h
      have gs := gs_ok c h
      obtain ⟨a1, a2⟩ := as_len (env := X.env) ns
      refine ⟨fun pins s σ H v u Q I rv ⟨d, δ, m, ρ, F, δ', M, r, rs, e1, k⟩ => ?_⟩
      unfold asgT at e1
      split at e1
      · rename_i ds es'
        obtain ⟨a, vs, rfl, r1, q⟩ := seqD_any c M es' r
        have hl : vs.length = es.length := by rw [← r1.length]; exact tl_len h e1
        rcases q with q | q
        · exact (pg_tup c.calm gs a1 a2).run pins s σ H _ u Q I rv ⟨a, vs, rfl, q, hl, ds, δ, m, ρ, F, δ', M, r1, rs, e1, k⟩
        · exact (pg_unl c.calm gs a1 a2).run pins s σ H _ u Q I rv ⟨a, vs, rfl, q, hl, ds, δ, m, ρ, F, δ', M, r1, rs, e1, k⟩
      · cases e1
    · cases h
theorem gs_ok (c : Cok g T' p lv X W cd) : ∀ {l : TL} {es : List Expr}, chkTL cd l es = true → PGs X es (rdGs g l)
  | .nil, [], _ => pgs_nil.imp fun vs σ H Q ⟨ds, δ, m, ρ, F, δ', M, r, rs, e1, k⟩ => by
    cases ds with
    | nil =>
      cases vs with
      | nil => cases e1; exact ⟨rfl, k _ rs (Same.refl _ _)⟩
      | cons _ _ => exact r.elim
    | cons _ _ => cases e1
  | .nil, _ :: _, h => by cases h
  | .cons t l, [], h => by cases h
  | .cons t l, e :: es, h => by
    have ns := tl_noStar h
    rw [List.all_cons, Bool.and_eq_true] at ns
    unfold chkTL at h
    rw [Bool.and_eq_true] at h
    refine (pgs_cons (g_ok c h.1) (gs_ok c h.2) (by rw [as_cons ns.1]; rfl)).imp fun vs σ H Q ⟨ds, δ, m, ρ, F, δ', M, r, rs, e1, k⟩ => ?_
    cases ds with
    | nil => cases e1
    | cons d ds =>
      cases vs with
      | nil => exact r.elim
      | cons v vs =>
        unfold asgTL at e1
        split at e1
        · rename_i δ1 e2
          refine ⟨v, vs, rfl, d, δ, m, ρ, F, δ1, M, r.1, rs, e2, fun σ1 rs1 s1 => ⟨ds, δ1, m, ρ, F, δ', M, r.2, rs1, e1, fun σ2 rs2 s2 => k σ2 rs2 (s1.app s2)⟩⟩
        · cases e1
end

/-! ### what is walked -/
/-- the heap has gone on -/
structure On (ρ0 : Rho) (F0 : Hp) (k : Nat) (ρ : Rho) (F : Hp) (m : Mem) : Prop where
  sub : ∀ a o, F0 a = some o → F a = some o
  len : k ≤ m.length
  agr : ∀ n, n < k → ρ n = ρ0 n
theorem On.refl {ρ : Rho} {F : Hp} {m : Mem} : On ρ F m.length ρ F m := ⟨fun _ _ h => h, Nat.le_refl _, fun _ _ => rfl⟩
theorem On.ext {ρ0 ρ ρ1 : Rho} {F0 F F1 : Hp} {k : Nat} {m m1 : Mem} {H H1 : Hp} (h : On ρ0 F0 k ρ F m) (x : Ext ρ F m H ρ1 F1 m1 H1) : On ρ0 F0 k ρ1 F1 m1 :=
  ⟨fun a o e => x.sub a o (h.sub a o e), Nat.le_trans h.len x.len, fun n hn => (x.agr n (Nat.lt_of_lt_of_le hn h.len)).trans (h.agr n hn)⟩
def RIt (g : Gn) : Rho → Hp → Nat → Its → It → Prop := fun ρ0 F0 k t J => t.l.length ≤ sizeLine ∧ ∀ ρ F m H, On ρ0 F0 k ρ F m → MRel g ρ F m H → t.held m → ∀ i,
  (∀ d, t.l[i]? = some d → J.go i H ∧ ∀ x H', J.yld i H x H' → ∃ F', Ext ρ F m H ρ F' m H' ∧ MRel g ρ F' m H' ∧ RD g ρ F' m.length d x) ∧ (t.l[i]? = none → J.stop i H)
abbrev rdIt (g : Gn) (W : WX) (r : Sl → Mem → R Its) : TI := rdX g (RIt g) W r
/-- items that stand as they are -/
theorem it_list (hK : X.K = g.K) {ρ0 : Rho} {F0 : Hp} {k : Nat} {t : Its} {a : Addr} (hz : t.l.length ≤ sizeLine) (h : ∀ ρ F m H, On ρ0 F0 k ρ F m → MRel g ρ F m H → t.held m → ∃ vs, H a = some (.lst vs) ∧ RDs g ρ F m.length t.l vs) : RIt g ρ0 F0 k t (Itl X.K a) := by
  refine ⟨hz, ?_⟩
  intro ρ F m H on M hd i
  obtain ⟨vs, h1, r⟩ := h ρ F m H on M hd
  refine ⟨fun d e => ?_, fun e => ⟨vs, SqL.of h1, ?_⟩⟩
  · obtain ⟨v, e1, r1⟩ := r.get e
    refine ⟨⟨vs, v, SqL.of h1, e1⟩, fun x H' y => ?_⟩
    obtain ⟨rfl, y⟩ := y
    have := y vs (SqL.of h1)
    rw [e1] at this
    cases this
    exact ⟨F, Ext.refl, M, r1⟩
  · rw [← r.length]; exact List.getElem?_eq_none_iff.mp e
theorem it_tup (hK : X.K = g.K) {ρ0 : Rho} {F0 : Hp} {k : Nat} {t : Its} {a : Addr} (hz : t.l.length ≤ sizeLine) (h : ∀ ρ F m H, On ρ0 F0 k ρ F m → MRel g ρ F m H → ∃ vs, SqT g.K H a vs ∧ RDs g ρ F m.length t.l vs) : RIt g ρ0 F0 k t (Itt X.K a) := by
  refine ⟨hz, ?_⟩
  intro ρ F m H on M hd i
  obtain ⟨vs, h1, r⟩ := h ρ F m H on M
  rw [← hK] at h1
  refine ⟨fun d e => ?_, fun e => ⟨vs, h1, ?_⟩⟩
  · obtain ⟨v, e1, r1⟩ := r.get e
    refine ⟨⟨vs, v, h1, e1⟩, fun x H' y => ?_⟩
    obtain ⟨rfl, y⟩ := y
    have := y vs h1
    rw [e1] at this
    cases this
    exact ⟨F, Ext.refl, M, r1⟩
  · rw [← r.length]; exact List.getElem?_eq_none_iff.mp e
theorem MRel.subF {ρ : Rho} {F F0 H : Hp} {m : Mem} (h : ∀ a o, F0 a = some o → F a = some o) (M : MRel g ρ F m H) : Sub F0 H := fun a o e => M.sub a o (h a o e)
theorem RPs.dsOn {ρ ρ0 : Rho} {F F0 : Hp} {k : Nat} {m : Mem} {l : List P} {vs : List V} (on : On ρ0 F0 k ρ F m) (r : RPs g F0 l vs) : RDs g ρ F m.length (l.map D.p) vs := RPs.ds (RPs.up (Sub.of on.sub) r)
/-- e, a sequence -/
theorem i_seq (c : Cok g T' p lv X W cd) {tg e : Expr} {ra : Sl → Mem → R D} (he : PE X e (rdE g W ra)) : PI X tg e (rdIt g W fun δ m => (ra δ m).bind fun x m => oR (itSeq x m) m) := by
  refine ⟨fun pins s σ H R' I ⟨δ, m, ρ, F, M, rs, P⟩ => ?_⟩
  dsimp only at P
  cases q : ra δ m with
  | no => rw [q] at P; exact P.elim
  | ex x m' =>
    rw [q] at P
    exact (pi_list he).run pins s σ H R' I ⟨δ, m, ρ, F, M, rs, by rw [q]; exact P⟩
  | ok d m' =>
    rw [q] at P
    have P : Post g (RIt g) ρ F m H (oR (itSeq d m') m') R' (WE W σ) := P
    have key : ∀ {Q : VK}, (∀ v H' ρ' F', Ext ρ F m H ρ' F' m' H' → MRel g ρ' F' m' H' → RD g ρ' F' m'.length d v → Q v H') → rdE g W ra σ H Q := fun k => ⟨δ, m, ρ, F, M, rs, by rw [q]; exact k⟩
    cases d with
    | p y =>
      cases y with
      | lst l =>
        refine (pi_list he).run pins s σ H R' I (key fun v H' ρ' F' x M' r => ?_)
        cases r with
        | lst hz h1 t =>
          rename_i a vs
          refine ⟨a, rfl, ⟨vs, SqL.of (M'.sub.lst h1)⟩, P _ _ _ _ x M' (it_list c.K (by rw [List.length_map]; exact hz) fun ρ2 F2 m2 H2 on M2 _ => ⟨vs, (M2.subF on.sub).lst h1, t.dsOn on⟩)⟩
      | tup l =>
        refine (pi_tup he).run pins s σ H R' I (key fun v H' ρ' F' x M' r => ?_)
        cases r with
        | tup hz h1 t =>
          rename_i a vs
          refine ⟨a, rfl, ⟨vs, SqT.of (M'.sub.tup h1)⟩, P _ _ _ _ x M' (it_tup c.K (by rw [List.length_map]; exact hz) fun ρ2 F2 m2 H2 on M2 => ⟨vs, SqT.of ((M2.subF on.sub).tup h1), t.dsOn on⟩)⟩
      | ktp l =>
        refine (pi_tup he).run pins s σ H R' I (key fun v H' ρ' F' x M' r => ?_)
        cases r with
        | ktp hz h1 t =>
          rename_i a vs
          refine ⟨a, rfl, ⟨vs, by rw [c.K]; exact h1 _⟩, P _ _ _ _ x M' (it_tup c.K (by rw [List.length_map]; exact hz) fun ρ2 F2 m2 H2 on M2 => ⟨vs, h1 _, t.dsOn on⟩)⟩
      | str z =>
        refine (pi_str he).run pins s σ H R' I (key fun v H' ρ' F' x M' r => ?_)
        cases r with | str _ hz =>
        refine ⟨z, rfl, P _ _ _ _ x M' ⟨by rw [List.length_map]; exact hz, fun ρ2 F2 m2 H2 on M2 _ i => ?_⟩⟩
        have ez : z.cps.toList[i]? = z.cps[i]? := Array.getElem?_toList ..
        refine ⟨fun d e => ?_, fun e => ?_⟩
        · have e : (z.cps.toList.map fun c => D.p (.str ⟨#[c]⟩))[i]? = some d := e
          rw [List.getElem?_map, ez] at e
          obtain ⟨cc, e1, e2⟩ := Option.map_eq_some_iff.mp e
          refine ⟨(Array.getElem?_eq_some_iff.mp e1).1, fun x' H3 y => ?_⟩
          obtain ⟨rfl, c', e3, rfl⟩ := y
          rw [e1] at e3
          cases e3
          subst e2
          exact ⟨F2, Ext.refl, M2, RP.str _ (by simp [Str.length, PySem.sizeLine])⟩
        · have e : (z.cps.toList.map fun c => D.p (.str ⟨#[c]⟩))[i]? = none := e
          rw [List.getElem?_map, ez] at e
          exact Array.getElem?_eq_none_iff.mp (Option.map_eq_none_iff.mp e)
      | _ => exact P.elim
    | ref n =>
      have P : Post g (RIt g) ρ F m H (oR (match m'.get n with | some (.lst l) => some ⟨l, some (n, l)⟩ | _ => none) m') R' (WE W σ) := P
      cases q2 : m'.get n with
      | none => rw [q2] at P; exact P.elim
      | some o =>
        rw [q2] at P
        cases o with
        | lst l =>
          refine (pi_list he).run pins s σ H R' I (key fun v H' ρ' F' x M' r => ?_)
          obtain ⟨ho, rfl, h1, h2⟩ := M'.look q2 r
          have hz := rmo_line h2
          obtain ⟨vs, rfl, h3⟩ := rmo_lst h2
          refine ⟨_, rfl, ⟨vs, SqL.of h1⟩, P _ _ _ _ x M' (it_list c.K hz fun ρ2 F2 m2 H2 on M2 hd => ?_)⟩
          obtain ⟨ho, _, h4, h5⟩ := M2.look (v := .ref (ρ2 n)) hd ⟨Nat.lt_of_lt_of_le r.1 on.len, rfl⟩
          obtain ⟨us, rfl, h6⟩ := rmo_lst h5
          exact ⟨us, by rw [← on.agr n r.1]; exact h4, h6⟩
        | _ => exact P.elim
theorem it_rng {ρ0 : Rho} {F0 : Hp} {k : Nat} {lo : Int} {n : Nat} (hn : n ≤ sizeLine) : RIt g ρ0 F0 k ⟨(List.range n).map fun (j : Nat) => .p (.int (lo + (j : Int))), none⟩ (Itr lo n) := by
  refine ⟨by simpa using hn, ?_⟩
  intro ρ F m H on M _ i
  refine ⟨fun d e => ?_, fun e => ?_⟩
  · have e : ((List.range n).map fun (j : Nat) => D.p (.int (lo + (j : Int))))[i]? = some d := e
    rw [List.getElem?_map] at e
    obtain ⟨j, e1, e2⟩ := Option.map_eq_some_iff.mp e
    have hi : i < n := by have := (List.getElem?_eq_some_iff.mp e1).1; simpa using this
    rw [List.getElem?_range hi] at e1
    cases e1
    refine ⟨hi, fun x H' y => ?_⟩
    obtain ⟨rfl, rfl⟩ := y
    subst e2
    exact ⟨F, Ext.refl, M, RP.int _⟩
  · have e : ((List.range n).map fun (j : Nat) => D.p (.int (lo + (j : Int))))[i]? = none := e
    rw [List.getElem?_map] at e
    have := List.getElem?_eq_none_iff.mp (Option.map_eq_none_iff.mp e)
    show n ≤ i
    simpa using this
theorem i_rng (c : Cok g T' p lv X W cd) {tg e : Expr} {np pos : Pos} {ra : Sl → Mem → R D} (hv : isGl cd "range" = true) (he : PE X e (rdE g W ra)) (hn : noStar e = true) : PI X tg (.Call (.Name "range" np) [e] [] pos) (rdIt g W fun δ m => (ra δ m).bind fun x m => oR (itRng x) m) := by
  refine (pi_range1 (c.glb hv) (c.bl "range" (by decide)) (pa_cons he pa_nil (star_cons hn)) (star_cons hn)).imp fun σ H Q h => rdX.bind h fun δ d m ρ F v H' M rs r P => ?_
  unfold itRng at P
  split at P
  · rename_i j
    cases r
    split at P
    · rename_i hj
      have hz := hj.2
      rw [PySem.sizeLine_eq] at hz
      refine ⟨j, rfl, hj.1, by omega, Post.val P M ?_⟩
      have := it_rng (g := g) (ρ0 := ρ) (F0 := F) (k := m.length) (lo := 0) (n := j.toNat) (by have := hj.2; omega)
      simpa using this
    · exact P.elim
  · exact P.elim
theorem i_rng2 (c : Cok g T' p lv X W cd) {tg e e2 : Expr} {np pos : Pos} {ra rb : Sl → Mem → R D} (hv : isGl cd "range" = true) (he : PE X e (rdE g W ra)) (hn : noStar e = true) (he2 : PE X e2 (rdE g W rb)) (hn2 : noStar e2 = true) :
    PI X tg (.Call (.Name "range" np) [e, e2] [] pos) (rdIt g W fun δ m => (ra δ m).bind fun x m => (rb δ m).bind fun y m => oR (itRng2 x y) m) := by
  refine (pi_range2 (c.glb hv) (c.bl "range" (by decide)) (pa_cons he (pa_cons he2 pa_nil (star_cons hn2)) (star_cons hn)) (by rw [star_cons hn, star_cons hn2]; rfl) (star_cons hn2)).imp fun σ H Q h => rdX.bind h fun δ d m ρ F v H' M rs r P => ?_
  refine ⟨δ, m, ρ, F, M, rs, Post.bind P fun d2 m2 v2 H2 ρ2 F2 x2 M2 r2 P2 => ?_⟩
  unfold itRng2 at P2
  split at P2
  · rename_i i j
    have r' := r.mono x2
    cases r'
    cases r2
    split at P2
    · rename_i hj
      exact ⟨i, j, rfl, by omega, Post.val P2 M2 (it_rng (by have := hj.2.2.2.2; omega))⟩
    · exact P2.elim
  · exact P2.elim
end
end Dn

/-! Dn, part K: zip, enumerate; comprehensions. -/
namespace Dn
open PySem PySem.Spec PyProof.Rows L2 DnQ
section
variable {g : Gn} {W : WX} {X : Cx} {T' : Tb} {p : Pg} {lv : Nat} {cd : Cd}
theorem RPs.at {F : Hp} : ∀ {l : List P} {vs : List V} {i : Nat} {x : P}, RPs g F l vs → l[i]? = some x → ∃ v, vs[i]? = some v ∧ RP g F x v
  | _, _, i, _, .nil, e => by simp at e
  | _, _, 0, _, .cons h _, e => by simp at e; subst e; exact ⟨_, rfl, h⟩
  | _, _, i + 1, _, .cons _ t, e => by
    obtain ⟨v, e1, r⟩ := RPs.at (i := i) t (by simpa using e)
    exact ⟨v, by simpa using e1, r⟩
theorem zipP_get : ∀ {l r : List P} {i : Nat}, (∀ d, (zipP l r)[i]? = some d → ∃ a b, l[i]? = some a ∧ r[i]? = some b ∧ d = .p (.tup [a, b])) ∧ ((zipP l r)[i]? = none → l.length ≤ i ∨ r.length ≤ i)
  | [], r, i => ⟨fun d e => by simp [zipP] at e, fun _ => .inl (Nat.zero_le _)⟩
  | a :: l, [], i => ⟨fun d e => by simp [zipP] at e, fun _ => .inr (Nat.zero_le _)⟩
  | a :: l, b :: r, 0 => ⟨fun d e => by simp [zipP] at e; exact ⟨a, b, rfl, rfl, e.symm⟩, fun e => by simp [zipP] at e⟩
  | a :: l, b :: r, i + 1 => by
    obtain ⟨h1, h2⟩ := zipP_get (l := l) (r := r) (i := i)
    refine ⟨fun d e => ?_, fun e => ?_⟩
    · obtain ⟨x, y, e1, e2, e3⟩ := h1 d (by simpa [zipP] using e)
      exact ⟨x, y, by simpa using e1, by simpa using e2, e3⟩
    · rcases h2 (by simpa [zipP] using e) with h | h
      · exact .inl (by simpa using h)
      · exact .inr (by simpa using h)
/-- a new pair -/
theorem pair_new {ρ : Rho} {F H : Hp} {m : Mem} {x y : P} {v u : V} {t : Addr} (M : MRel g ρ F m H) (ht : H t = none) (rx : RP g F x v) (ry : RP g F y u) :
    ∃ F', Ext ρ F m H ρ F' m (upd H t (.tup [v, u])) ∧ MRel g ρ F' m (upd H t (.tup [v, u])) ∧ RD g ρ F' m.length (.p (.tup [x, y])) (.ref t) := by
  obtain ⟨x1, M1⟩ := step_pure (ho := .tup [v, u]) M ht
  exact ⟨_, x1, M1, RP.tup (show 2 ≤ sizeLine by decide) upd_same (.cons (RP.up x1.Sub rx) (.cons (RP.up x1.Sub ry) .nil))⟩
theorem zipP_len : ∀ {l r : List P}, (zipP l r).length ≤ l.length
  | [], _ => Nat.zero_le _
  | _ :: _, [] => Nat.zero_le _
  | _ :: l, _ :: r => Nat.succ_le_succ (zipP_len (l := l) (r := r))
/-- the rows of some lists -/
def rowAt : List (List P) → Nat → Option (List P)
  | [], _ => some []
  | l :: ls, i => match l[i]?, rowAt ls i with
    | some x, some ys => some (x :: ys)
    | _, _ => none
inductive RPss (g : Gn) (F : Hp) : List (List P) → List (List V) → Prop
  | nil : RPss g F [] []
  | cons {l : List P} {vs : List V} {ls : List (List P)} {vss : List (List V)} : RPs g F l vs → RPss g F ls vss → RPss g F (l :: ls) (vs :: vss)
theorem row_some {F : Hp} {i : Nat} : ∀ {ls : List (List P)} {vss : List (List V)} {ys : List P}, RPss g F ls vss → rowAt ls i = some ys → ∃ us, RowAt vss i us ∧ RPs g F ys us
  | [], _, ys, .nil, e => by cases e; exact ⟨[], ⟨rfl, fun j xs q => by simp at q⟩, .nil⟩
  | l :: ls, _, ys, .cons (vs := vs) r t, e => by
    unfold rowAt at e
    split at e
    · rename_i x ys' e1 e2
      cases e
      obtain ⟨v, ev, rv⟩ := r.at e1
      obtain ⟨us, ⟨h1, h2⟩, h3⟩ := row_some t e2
      refine ⟨v :: us, ⟨congrArg Nat.succ h1, fun j xs q => ?_⟩, .cons rv h3⟩
      cases j with
      | zero => cases q; exact ⟨v, ev, rfl⟩
      | succ j => simpa using h2 j xs (by simpa using q)
    · cases e
theorem row_none {F : Hp} {i : Nat} : ∀ {ls : List (List P)} {vss : List (List V)}, RPss g F ls vss → rowAt ls i = none → ∃ xs ∈ vss, xs.length ≤ i
  | [], _, .nil, e => by cases e
  | l :: ls, _, .cons (vs := vs) r t, e => by
    unfold rowAt at e
    cases e1 : l[i]? with
    | none => exact ⟨vs, List.mem_cons_self, by rw [← r.length]; exact List.getElem?_eq_none_iff.mp e1⟩
    | some x =>
      cases e2 : rowAt ls i with
      | none =>
        obtain ⟨xs, m, h⟩ := row_none t e2
        exact ⟨xs, List.mem_cons_of_mem _ m, h⟩
      | some ys => rw [e1, e2] at e; cases e
theorem _root_.DnQ.RowAt.uniq {xss : List (List V)} {i : Nat} {ys zs : List V} (h : RowAt xss i ys) (k : RowAt xss i zs) : ys = zs := by
  refine List.ext_getElem? fun j => ?_
  by_cases hj : j < xss.length
  · obtain ⟨x, x1, x2⟩ := h.2 j _ (List.getElem?_eq_getElem hj)
    obtain ⟨y, y1, y2⟩ := k.2 j _ (List.getElem?_eq_getElem hj)
    rw [x1] at y1
    cases y1
    rw [x2, y2]
  · rw [List.getElem?_eq_none_iff.mpr (by rw [h.1]; omega), List.getElem?_eq_none_iff.mpr (by rw [k.1]; omega)]
/-- the sources: lists and tuples of pure items -/
structure PSrc (g : Gn) (ρ0 : Rho) (F0 : Hp) (k : Nat) (q : Option (Nat × List D)) (ks : List (Bool × Addr)) (ls : List (List P)) : Prop where
  at_ : ∀ ρ F m H, On ρ0 F0 k ρ F m → MRel g ρ F m H → (Its.mk [] q).held m → ∃ vss, SqKs g.K H ks vss ∧ RPss g F ls vss
  ln : ls.length ≤ sizeLine
theorem it_zipN (hK : X.K = g.K) {ρ0 : Rho} {F0 : Hp} {k : Nat} {ks : List (Bool × Addr)} {ls : List (List P)} {q0 : Option (Nat × List D)} {l : List D} (S : PSrc g ρ0 F0 k q0 ks ls) (hz : l.length ≤ sizeLine) (spec : ∀ i, l[i]? = (rowAt ls i).map fun ys => D.p (.tup ys)) :
    RIt g ρ0 F0 k ⟨l, q0⟩ (Itzn X.K ks) := by
  refine ⟨hz, fun ρ F m H on M hd i => ?_⟩
  obtain ⟨vss, q, rp⟩ := S.at_ ρ F m H on M hd
  rw [← hK] at q
  rw [show (⟨l, q0⟩ : Its).l = l from rfl, spec i]
  cases e : rowAt ls i with
  | none =>
    obtain ⟨xs, m, h⟩ := row_none rp e
    exact ⟨fun d z => by simp at z, fun _ => ⟨vss, q, xs, m, h⟩⟩
  | some ys =>
    obtain ⟨us, row, r⟩ := row_some rp e
    refine ⟨fun d z => ?_, fun z => by simp at z⟩
    have z : D.p (.tup ys) = d := by simpa using z
    subst z
    refine ⟨⟨vss, q, us, row⟩, fun w H' y => ?_⟩
    obtain ⟨t, us', rfl, ht, rfl, hrow⟩ := y
    have := (hrow vss q).uniq row
    subst this
    obtain ⟨x1, M1⟩ := step_pure (ho := .tup us') M ht
    have rl : ∀ {ls : List (List P)} {i : Nat} {ys : List P}, rowAt ls i = some ys → ys.length = ls.length := by
      intro ls
      induction ls with
      | nil => intro i ys e; cases e; rfl
      | cons a ls ih =>
        intro i ys e
        unfold rowAt at e
        split at e
        · rename_i e1 e2
          cases e
          exact congrArg Nat.succ (ih e2)
        · cases e
    exact ⟨_, x1, M1, RP.tup (by rw [rl e]; exact S.ln) upd_same (RPs.up x1.Sub r)⟩
theorem pseq_ok {F : Hp} {ρ : Rho} {k : Nat} {d : D} {b : Bool} {l : List P} {v : V} (e : pseq d = some (b, l)) (r : RD g ρ F k d v) : ∃ a vs, v = .ref a ∧ RPs g F l vs ∧ l.length ≤ sizeLine ∧ ∀ H, Dn.Sub F H → SqK g.K b H a vs := by
  unfold pseq at e
  split at e
  · cases e
    cases r with
    | lst hz h t => exact ⟨_, _, rfl, t, hz, fun H s => SqL.of (s.lst h)⟩
  · cases e
    cases r with
    | tup hz h t => exact ⟨_, _, rfl, t, hz, fun H s => SqT.of (s.tup h)⟩
  · cases e
    cases r with
    | ktp hz h t => exact ⟨_, _, rfl, t, hz, fun H s => h H⟩
  · cases e
/-- what a source is, as long as it stands -/
def SrcOk (g : Gn) (ρ0 : Rho) (F0 : Hp) (k : Nat) (q : Option (Nat × List D)) (b : Bool) (a : Addr) (l : List P) : Prop := ∀ ρ F m H, On ρ0 F0 k ρ F m → MRel g ρ F m H → (Its.mk [] q).held m → ∃ vs, SqK g.K b H a vs ∧ RPs g F l vs
theorem psq_ok {F H : Hp} {ρ : Rho} {m : Mem} {d : D} {b : Bool} {l : List P} {h q : Option (Nat × List D)} {v : V} (M : MRel g ρ F m H) (e : psq m d = some (b, l, h)) (r : RD g ρ F m.length d v) (hq : h = none ∨ q = h) : ∃ a, v = .ref a ∧ l.length ≤ sizeLine ∧ SrcOk g ρ F m.length q b a l := by
  cases d with
  | p x =>
    have e : (pseq (.p x)).map (fun x => (x.1, x.2, (none : Option (Nat × List D)))) = some (b, l, h) := e
    rw [Option.map_eq_some_iff] at e
    obtain ⟨⟨b', l'⟩, e1, e2⟩ := e
    cases e2
    obtain ⟨a, vs, rfl, t, hz, sq⟩ := pseq_ok e1 r
    exact ⟨a, rfl, hz, fun ρ2 F2 m2 H2 on M2 _ => ⟨vs, sq H2 (M2.subF on.sub), RPs.up (Sub.of on.sub) t⟩⟩
  | ref n =>
    have e : (match m.get n with | some (.lst l) => (allP l).map fun ps => (false, ps, some (n, l)) | _ => none) = some (b, l, h) := e
    cases q2 : m.get n with
    | none => rw [q2] at e; cases e
    | some o =>
      rw [q2] at e
      cases o with
      | lst l0 =>
        dsimp only at e
        rw [Option.map_eq_some_iff] at e
        obtain ⟨ps, ep, e2⟩ := e
        cases e2
        obtain ⟨ho, rfl, h1, h2⟩ := M.look q2 r
        have hz := rmo_line h2
        rw [allP_eq ep, List.length_map] at hz
        refine ⟨_, rfl, hz, fun ρ2 F2 m2 H2 on M2 hd => ?_⟩
        rcases hq with hq | hq
        · cases hq
        · subst hq
          have hd : m2.get n = some (.lst l0) := hd
          obtain ⟨ho, _, h4, h5⟩ := M2.look (v := .ref (ρ2 n)) hd ⟨Nat.lt_of_lt_of_le r.1 on.len, rfl⟩
          obtain ⟨us, rfl, h6⟩ := rmo_lst h5
          rw [allP_eq ep] at h6
          exact ⟨us, SqL.of (by rw [← on.agr n r.1]; exact h4), RPs.of h6⟩
      | _ => cases e
theorem psq_held {m : Mem} {d : D} {b : Bool} {l : List P} {h : Option (Nat × List D)} (e : psq m d = some (b, l, h)) : (Its.mk [] h).held m := by
  cases d with
  | p x =>
    have e : (pseq (.p x)).map (fun x => (x.1, x.2, (none : Option (Nat × List D)))) = some (b, l, h) := e
    rw [Option.map_eq_some_iff] at e
    obtain ⟨⟨b', l'⟩, e1, e2⟩ := e
    cases e2
    trivial
  | ref n =>
    have e : (match m.get n with | some (.lst l) => (allP l).map fun ps => (false, ps, some (n, l)) | _ => none) = some (b, l, h) := e
    cases q2 : m.get n with
    | none => rw [q2] at e; cases e
    | some o =>
      rw [q2] at e
      cases o with
      | lst l0 =>
        dsimp only at e
        rw [Option.map_eq_some_iff] at e
        obtain ⟨ps, ep, e2⟩ := e
        cases e2
        exact q2
      | _ => cases e
theorem psq_now {F H : Hp} {ρ : Rho} {m : Mem} {d : D} {b : Bool} {l : List P} {h : Option (Nat × List D)} {v : V} (M : MRel g ρ F m H) (e : psq m d = some (b, l, h)) (r : RD g ρ F m.length d v) : ∃ a vs, v = .ref a ∧ RPs g F l vs ∧ l.length ≤ sizeLine ∧ SqK g.K b H a vs := by
  obtain ⟨a, rfl, hz, s⟩ := psq_ok (q := h) M e r (.inr rfl)
  obtain ⟨vs, v1, v2⟩ := s ρ F m H On.refl M (psq_held e)
  exact ⟨a, vs, rfl, v2, hz, v1⟩
theorem hold2_ok {α : Type} {a b : Option α} {q : Option α} (e : hold2 a b = some q) : (a = none ∨ q = a) ∧ (b = none ∨ q = b) ∧ (q = a ∨ q = b) := by
  unfold hold2 at e
  split at e
  · cases e; exact ⟨.inl rfl, .inr rfl, .inr rfl⟩
  · cases e; exact ⟨.inr rfl, .inl rfl, .inl rfl⟩
  · cases e
theorem zip1_get (l : List P) (i : Nat) : (l.map fun p => D.p (.tup [p]))[i]? = (rowAt [l] i).map fun ys => D.p (.tup ys) := by
  rw [List.getElem?_map]
  unfold rowAt rowAt
  cases l[i]? <;> rfl
theorem zip2_get : ∀ (l r : List P) (i : Nat), (zipP l r)[i]? = (rowAt [l, r] i).map fun ys => D.p (.tup ys)
  | [], r, i => by simp [zipP, rowAt]
  | a :: l, [], i => by simp [zipP, rowAt]
  | a :: l, b :: r, 0 => rfl
  | a :: l, b :: r, i + 1 => by
    have := zip2_get l r i
    simpa [zipP, rowAt] using this
theorem zip3_get : ∀ (l r q : List P) (i : Nat), (zip3P l r q)[i]? = (rowAt [l, r, q] i).map fun ys => D.p (.tup ys)
  | [], r, q, i => by simp [zip3P, rowAt]
  | a :: l, [], q, i => by simp [zip3P, rowAt]
  | a :: l, b :: r, [], i => by simp [zip3P, rowAt]
  | a :: l, b :: r, c :: q, 0 => rfl
  | a :: l, b :: r, c :: q, i + 1 => by
    have := zip3_get l r q i
    simpa [zip3P, rowAt] using this
theorem zip3P_len : ∀ {l r q : List P}, (zip3P l r q).length ≤ l.length
  | [], _, _ => Nat.zero_le _
  | _ :: _, [], _ => Nat.zero_le _
  | _ :: _, _ :: _, [] => Nat.zero_le _
  | _ :: l, _ :: r, _ :: q => Nat.succ_le_succ (zip3P_len (l := l) (r := r) (q := q))
theorem i_zip (c : Cok g T' p lv X W cd) {tg e : Expr} {es : List Expr} {np pos : Pos} {rl : Sl → Mem → R (List D)} (hv : isGl cd "zip" = true) (hl : PA X (e :: es) (rdA g W rl)) (hn : noStar e = true) (hs : es.all noStar = true) :
    PI X tg (.Call (.Name "zip" np) (e :: es) [] pos) (rdIt g W fun δ m => (rl δ m).bind fun xs m => oR (itZip xs m) m) := by
  refine (pi_zipN (c.glb hv) (c.bl "zip" (by decide)) hl (star_cons hn) (plain_any hs)).imp fun σ H Q h => rdX.bind h fun δ xs m ρ F vs H' M rs r P => ?_
  have two : 3 ≤ sizeLine := by rw [PySem.sizeLine_eq]; decide
  unfold itZip at P
  split at P
  · rename_i a
    split at P
    · rename_i b x h ex
      match vs, r with
      | [v], r =>
        obtain ⟨q, rfl, hz, sq⟩ := psq_ok (q := h) M ex r.1 (.inr rfl)
        obtain ⟨us, u1, u2⟩ := sq ρ F m H' On.refl M (psq_held ex)
        refine ⟨[(b, q)], [us], rfl, by simp, by simp, by rw [c.K]; exact ⟨u1, trivial⟩, P.val M (it_zipN c.K (ls := [x]) ⟨fun ρ2 F2 m2 H2 on M2 hd => ?_, by simp; omega⟩ (by simpa using hz) (zip1_get x))⟩
        obtain ⟨us, u1, u2⟩ := sq ρ2 F2 m2 H2 on M2 hd
        exact ⟨[us], ⟨u1, trivial⟩, .cons u2 .nil⟩
    · exact P.elim
  · rename_i a b
    split at P
    · rename_i k1 x h1 k2 y h2 ex ey
      cases eh : hold2 h1 h2 with
      | none => rw [eh] at P; exact P.elim
      | some qh =>
        rw [eh] at P
        obtain ⟨z1, z2, z3⟩ := hold2_ok eh
        have hd0 : (Its.mk [] qh).held m := by
          rcases z3 with z | z
          · rw [z]; exact psq_held ex
          · rw [z]; exact psq_held ey
        match vs, r with
        | [v, w], r =>
          obtain ⟨q, rfl, hz, sq⟩ := psq_ok (q := qh) M ex r.1 z1
          obtain ⟨q2, rfl, hz2, sq2⟩ := psq_ok (q := qh) M ey r.2.1 z2
          obtain ⟨us, u1, _⟩ := sq ρ F m H' On.refl M hd0
          obtain ⟨us2, u2, _⟩ := sq2 ρ F m H' On.refl M hd0
          refine ⟨[(k1, q), (k2, q2)], [us, us2], rfl, by simp, by simp, by rw [c.K]; exact ⟨u1, u2, trivial⟩, P.val M (it_zipN c.K (ls := [x, y]) ⟨fun ρ2 F2 m2 H2 on M2 hd => ?_, by simp; omega⟩ (Nat.le_trans zipP_len hz) (zip2_get x y))⟩
          obtain ⟨us, u1, v1⟩ := sq ρ2 F2 m2 H2 on M2 hd
          obtain ⟨us2, u2, v2⟩ := sq2 ρ2 F2 m2 H2 on M2 hd
          exact ⟨[us, us2], ⟨u1, u2, trivial⟩, .cons v1 (.cons v2 .nil)⟩
    · exact P.elim
  · rename_i a b d
    split at P
    · rename_i k1 x h1 k2 y h2 k3 z h3 ex ey ez
      cases eh : hold2 h1 h2 with
      | none => rw [eh] at P; exact P.elim
      | some qh =>
        rw [eh] at P
        cases eh2 : hold2 qh h3 with
        | none =>
          have P : Post g (RIt g) ρ F m H' (oR (Option.map (fun q => (⟨zip3P x y z, q⟩ : Its)) (hold2 qh h3)) m) Q (WE W σ) := P
          rw [eh2] at P; exact P.elim
        | some qg =>
          have P : Post g (RIt g) ρ F m H' (oR (Option.map (fun q => (⟨zip3P x y z, q⟩ : Its)) (hold2 qh h3)) m) Q (WE W σ) := P
          rw [eh2] at P
          obtain ⟨z1, z2, z3⟩ := hold2_ok eh
          obtain ⟨w1, w2, w3⟩ := hold2_ok eh2
          have y1 : h1 = none ∨ qg = h1 := by
            rcases z1 with z | z
            · exact .inl z
            · rcases w1 with w | w
              · exact .inl (z.symm.trans w)
              · exact .inr (w.trans z)
          have y2 : h2 = none ∨ qg = h2 := by
            rcases z2 with z | z
            · exact .inl z
            · rcases w1 with w | w
              · exact .inl (z.symm.trans w)
              · exact .inr (w.trans z)
          have hd0 : (Its.mk [] qg).held m := by
            rcases w3 with z | z
            · rw [z]
              rcases z3 with z | z
              · rw [z]; exact psq_held ex
              · rw [z]; exact psq_held ey
            · rw [z]; exact psq_held ez
          match vs, r with
          | [v, w, u], r =>
            obtain ⟨q, rfl, hz, sq⟩ := psq_ok (q := qg) M ex r.1 y1
            obtain ⟨q2, rfl, hz2, sq2⟩ := psq_ok (q := qg) M ey r.2.1 y2
            obtain ⟨q3, rfl, hz3, sq3⟩ := psq_ok (q := qg) M ez r.2.2.1 w2
            obtain ⟨us, u1, _⟩ := sq ρ F m H' On.refl M hd0
            obtain ⟨us2, u2, _⟩ := sq2 ρ F m H' On.refl M hd0
            obtain ⟨us3, u3, _⟩ := sq3 ρ F m H' On.refl M hd0
            refine ⟨[(k1, q), (k2, q2), (k3, q3)], [us, us2, us3], rfl, by simp, by simp, by rw [c.K]; exact ⟨u1, u2, u3, trivial⟩, P.val M (it_zipN c.K (ls := [x, y, z]) ⟨fun ρ2 F2 m2 H2 on M2 hd => ?_, two⟩ (Nat.le_trans zip3P_len hz) (zip3_get x y z))⟩
            obtain ⟨us, u1, v1⟩ := sq ρ2 F2 m2 H2 on M2 hd
            obtain ⟨us2, u2, v2⟩ := sq2 ρ2 F2 m2 H2 on M2 hd
            obtain ⟨us3, u3, v3⟩ := sq3 ρ2 F2 m2 H2 on M2 hd
            exact ⟨[us, us2, us3], ⟨u1, u2, u3, trivial⟩, .cons v1 (.cons v2 (.cons v3 .nil))⟩
    · exact P.elim
  · exact P.elim
/-- a pure dict's keys -/
theorem i_keys (c : Cok g T' p lv X W cd) {tg e : Expr} {ra : Sl → Mem → R D} (he : PE X e (rdE g W ra)) : PI X tg e (rdIt g W fun δ m => (ra δ m).bind fun x m => oR (itKeys x) m) := by
  refine (pi_keys he).imp fun σ H Q h => rdX.bind h fun δ d m ρ F v H' M rs r P => ?_
  unfold itKeys at P
  split at P
  · rename_i l
    cases r with
    | dK hz h1 t =>
      rename_i a kvs od
      refine ⟨a, od, rfl, .inl ⟨kvs, M.sub.frz h1, P.val M ⟨by rw [List.length_map]; exact hz, fun ρ2 F2 m2 H2 on M2 _ i => ?_⟩⟩⟩
      have hd : H2 a = some (.frz od (.dK kvs)) := (M2.subF on.sub).frz h1
      have len : ∀ {l : List (Dn.P × Dn.P)} {kvs : List (Key × V)}, RPk g F l kvs → l.length = kvs.length := by
        intro l kvs z
        induction l generalizing kvs with
        | nil => cases z; rfl
        | cons a l ih => cases z with | cons _ _ _ z => exact congrArg Nat.succ (ih z)
      refine ⟨fun d e => ?_, fun e => ⟨hd, ?_⟩⟩
      · have e : (l.map fun kv => D.p kv.1)[i]? = some d := e
        rw [List.getElem?_map] at e
        obtain ⟨kv, e1, rfl⟩ := Option.map_eq_some_iff.mp e
        have hi : i < l.length := (List.getElem?_eq_some_iff.mp e1).1
        have ke := keys_rp t
        obtain ⟨v, ev, rv⟩ := ke.at (i := i) (x := kv.1) (by rw [List.getElem?_map, e1]; rfl)
        refine ⟨⟨hd, by rw [← len t]; exact hi⟩, fun w H3 y => ?_⟩
        obtain ⟨rfl, k, u, ek, rfl⟩ := y
        rw [List.getElem?_map, ek] at ev
        cases ev
        exact ⟨F2, Ext.refl, M2, RP.up (Sub.of on.sub) rv⟩
      · have e : (l.map fun kv => D.p kv.1)[i]? = none := e
        rw [List.getElem?_map, Option.map_eq_none_iff, List.getElem?_eq_none_iff] at e
        rw [← len t]; exact e
  · exact P.elim
theorem enumP_get : ∀ {l : List P} {k i : Nat}, (∀ d, (enumP k l)[i]? = some d → ∃ a, l[i]? = some a ∧ d = .p (.tup [.int ((k + i : Nat) : Int), a])) ∧ ((enumP k l)[i]? = none → l.length ≤ i)
  | [], k, i => ⟨fun d e => by simp [enumP] at e, fun _ => Nat.zero_le _⟩
  | a :: l, k, 0 => ⟨fun d e => by simp [enumP] at e; exact ⟨a, rfl, e.symm⟩, fun e => by simp [enumP] at e⟩
  | a :: l, k, i + 1 => by
    obtain ⟨h1, h2⟩ := enumP_get (l := l) (k := k + 1) (i := i)
    refine ⟨fun d e => ?_, fun e => ?_⟩
    · obtain ⟨x, e1, e3⟩ := h1 d (by simpa [enumP] using e)
      exact ⟨x, by simpa using e1, by rw [e3, show k + 1 + i = k + (i + 1) by omega]⟩
    · simpa using h2 (by simpa [enumP] using e)
theorem enumP_len : ∀ {l : List P} {k : Nat}, (enumP k l).length = l.length
  | [], _ => rfl
  | _ :: l, k => congrArg Nat.succ (enumP_len (l := l) (k := k + 1))
/-- a list, each item with its number -/
theorem it_enum (hK : X.K = g.K) {ρ0 : Rho} {F0 : Hp} {k : Nat} {t : Its} {ps : List P} {a : Addr} (hz : ps.length ≤ sizeLine) (ht : t.l = enumP 0 ps) (h : ∀ ρ F m H, On ρ0 F0 k ρ F m → MRel g ρ F m H → t.held m → ∃ vs, H a = some (.lst vs) ∧ RPs g F ps vs) : RIt g ρ0 F0 k t (Ite X.K a) := by
  refine ⟨by rw [ht, enumP_len]; exact hz, fun ρ2 F2 m2 H2 on M2 hd i => ?_⟩
  obtain ⟨vs, q1, t1⟩ := h ρ2 F2 m2 H2 on M2 hd
  obtain ⟨z1, z2⟩ := enumP_get (l := ps) (k := 0) (i := i)
  rw [ht]
  refine ⟨fun d e => ?_, fun e => ⟨vs, SqL.of q1, by rw [← t1.length]; exact z2 e⟩⟩
  obtain ⟨x, e1, rfl⟩ := z1 d e
  obtain ⟨v, e3, p1⟩ := t1.at e1
  refine ⟨⟨vs, v, SqL.of q1, e3⟩, fun w H3 y' => ?_⟩
  obtain ⟨t, v', rfl, ht, rfl, k1⟩ := y'
  have := k1 vs (SqL.of q1)
  rw [e3] at this; cases this
  rw [Nat.zero_add]
  exact pair_new M2 ht (RP.int _) p1
theorem i_enum (c : Cok g T' p lv X W cd) {tes : List Expr} {kk : Nat} {tp : Pos} {e : Expr} {np pos : Pos} {ra : Sl → Mem → R D} (hv : isGl cd "enumerate" = true) (he : PE X e (rdE g W ra)) (hn : noStar e = true) :
    PI X (.Tuple tes kk tp) (.Call (.Name "enumerate" np) [e] [] pos) (rdIt g W fun δ m => (ra δ m).bind fun x m => oR (itEnum x m) m) := by
  refine ⟨fun pins s σ H R' I ⟨δ, m, ρ, F, M, rs, P⟩ => ?_⟩
  dsimp only at P
  have bl : ∀ {t : TI}, t = t := fun {t} => rfl
  cases q : ra δ m with
  | no => rw [q] at P; exact P.elim
  | ex x m' =>
    rw [q] at P
    exact (pi_enum (c.glb hv) (c.bl "enumerate" (by decide)) (pa_cons he pa_nil (star_cons hn)) (star_cons hn)).run pins s σ H R' I ⟨δ, m, ρ, F, M, rs, by rw [q]; exact P⟩
  | ok d m' =>
    rw [q] at P
    have P : Post g (RIt g) ρ F m H (oR (itEnum d m') m') R' (WE W σ) := P
    have key : ∀ {Q : VK}, (∀ v H' ρ' F', Ext ρ F m H ρ' F' m' H' → MRel g ρ' F' m' H' → RD g ρ' F' m'.length d v → Q v H') → rdE g W ra σ H Q := fun k => ⟨δ, m, ρ, F, M, rs, by rw [q]; exact k⟩
    have lstC : (∀ v H' ρ' F', Ext ρ F m H ρ' F' m' H' → MRel g ρ' F' m' H' → RD g ρ' F' m'.length d v → ∃ a xs, v = .ref a ∧ SqL X.K H' a xs ∧ R' (Ite X.K a) H') → wpAny (model X.prog X.w) X.A (eval (.Call (.Name "enumerate" np) [e] [] pos) X.env) (fun v s1 => wpAny (model X.prog X.w) X.A (pyIter v) (PIE X pins σ (.Tuple tes kk tp) R') X.xe s1) X.xe s := fun k =>
      (pi_enum (c.glb hv) (c.bl "enumerate" (by decide)) (pa_cons he pa_nil (star_cons hn)) (star_cons hn)).run pins s σ H R' I (key fun v H' ρ' F' x M' r => by
        obtain ⟨a, xs, ev, hs, hR⟩ := k v H' ρ' F' x M' r
        exact ⟨a, xs, by rw [ev], hs, hR⟩)
    cases d with
    | p y =>
      cases y with
      | lst l =>
        refine lstC fun v H' ρ' F' x M' r => ?_
        cases r with
        | lst hz h1 t1 =>
          rename_i a vs
          exact ⟨a, vs, rfl, SqL.of (M'.sub.lst h1), P _ _ _ _ x M' (it_enum c.K hz rfl fun ρ2 F2 m2 H2 on M2 _ => ⟨vs, (M2.subF on.sub).lst h1, RPs.up (Sub.of on.sub) t1⟩)⟩
      | tup l =>
        refine (pi_enumT (c.glb hv) (c.bl "enumerate" (by decide)) (pa_cons he pa_nil (star_cons hn)) (star_cons hn)).run pins s σ H R' I (key fun v H' ρ' F' x M' r => ?_)
        cases r with
        | tup hz h1 t1 =>
          rename_i a vs
          refine ⟨a, vs, rfl, SqT.of (M'.sub.tup h1), P _ _ _ _ x M' ⟨by rw [enumP_len]; exact hz, fun ρ2 F2 m2 H2 on M2 _ i => ?_⟩⟩
          have q1 := SqT.of (K := X.K) ((M2.subF on.sub).tup h1)
          obtain ⟨z1, z2⟩ := enumP_get (l := l) (k := 0) (i := i)
          refine ⟨fun d e => ?_, fun e => ⟨vs, q1, by rw [← t1.length]; exact z2 e⟩⟩
          obtain ⟨x, e1, rfl⟩ := z1 d e
          obtain ⟨v, e3, p1⟩ := t1.at e1
          refine ⟨⟨vs, v, q1, e3⟩, fun w H3 y' => ?_⟩
          obtain ⟨t, v', rfl, ht, rfl, k1⟩ := y'
          have := k1 vs q1
          rw [e3] at this; cases this
          rw [Nat.zero_add]
          exact pair_new M2 ht (RP.int _) (RP.up (Sub.of on.sub) p1)
      | _ => exact P.elim
    | ref n =>
      have P : Post g (RIt g) ρ F m H (oR (match m'.get n with | some (.lst l) => (match allP l with | some ps => some ⟨enumP 0 ps, some (n, l)⟩ | none => none) | _ => none) m') R' (WE W σ) := P
      cases q2 : m'.get n with
      | none => rw [q2] at P; exact P.elim
      | some o =>
        rw [q2] at P
        cases o with
        | lst l =>
          dsimp only at P
          split at P
          · rename_i ps ep
            refine lstC fun v H' ρ' F' x M' r => ?_
            obtain ⟨ho, rfl, h1, h2⟩ := M'.look q2 r
            have hz := rmo_line h2
            rw [allP_eq ep, List.length_map] at hz
            obtain ⟨vs, rfl, h3⟩ := rmo_lst h2
            refine ⟨_, vs, rfl, SqL.of h1, P _ _ _ _ x M' (it_enum c.K hz rfl fun ρ2 F2 m2 H2 on M2 hd => ?_)⟩
            obtain ⟨ho, _, h4, h5⟩ := M2.look (v := .ref (ρ2 n)) hd ⟨Nat.lt_of_lt_of_le r.1 on.len, rfl⟩
            obtain ⟨us, rfl, h6⟩ := rmo_lst h5
            rw [allP_eq ep] at h6
            exact ⟨us, by rw [← on.agr n r.1]; exact h4, RPs.of h6⟩
          · exact P.elim
        | _ => exact P.elim
end
end Dn

/-! Dn, part L: comprehensions. -/
namespace Dn
open PySem PySem.Spec PyProof.Rows L2 DnQ
/-! ### a heap without one object -/
def hide (L : Addr) (H : Hp) : Hp := fun a => if a = L then none else H a
theorem hide_self {L : Addr} {H : Hp} : hide L H L = none := if_pos rfl
theorem hide_ne {L a : Addr} {H : Hp} (h : a ≠ L) : hide L H a = H a := if_neg h
theorem hide_upd {L : Addr} {H : Hp} {o : HO} : hide L (upd H L o) = hide L H := by
  funext a
  unfold hide
  split
  · rfl
  · rename_i h; exact upd_ne h
theorem hide_none {L : Addr} {H : Hp} (h : H L = none) : hide L H = H := by
  funext a
  unfold hide
  split
  · rename_i e; rw [e, h]
  · rfl
theorem upd_hide {L : Addr} {H : Hp} {o : HO} (h : H L = some o) : upd (hide L H) L o = H := by
  funext a
  by_cases e : a = L
  · rw [e, upd_same, h]
  · rw [upd_ne e, hide_ne e]
theorem hide_some {L a : Addr} {H : Hp} {o : HO} (h : hide L H a = some o) : a ≠ L ∧ H a = some o := by
  unfold hide at h
  split at h
  · cases h
  · rename_i e; exact ⟨e, h⟩
section
variable {g : Gn} {ρ ρ1 : Rho} {F F1 H H1 : Hp} {m m1 : Mem} {L : Addr}
theorem Ext.hide (x : Ext ρ F m H ρ1 F1 m1 H1) : Ext ρ F m (hide L H) ρ1 F1 m1 (hide L H1) where
  sub := x.sub
  len := x.len
  agr := x.agr
  dead := x.dead
  fresh := fun n h l => by
    have := x.fresh n h l
    unfold Dn.hide
    split
    · rfl
    · exact this
  frame := fun a o h hl => by
    obtain ⟨h1, h2⟩ := hide_some h
    rw [hide_ne h1]
    exact x.frame a o h2 hl
  there := fun a o h => by
    obtain ⟨h1, h2⟩ := hide_some h
    rw [hide_ne h1]
    exact x.there a o h2
  new := fun a o h => by
    rcases x.new a o h with h | h | h
    · exact .inl h
    · refine .inr (.inl ?_)
      unfold Dn.hide
      split
      · rfl
      · exact h
    · exact .inr (.inr h)
theorem MRel.unhide (M : MRel g ρ F m (hide L H)) : MRel g ρ F m H where
  sub := fun a o e => by
    rcases M.sub a o e with h | ⟨z, od, h⟩
    · exact .inl (hide_some h).2
    · exact .inr ⟨z, od, (hide_some h).2⟩
  mem := fun n o e => by
    obtain ⟨f, ho, h, r⟩ := M.mem n o e
    exact ⟨f, ho, (hide_some h).2, r⟩
  inj := M.inj
/-- the hidden one stays -/
theorem MRel.hidden (M : MRel g ρ F m (hide L H)) {o : HO} (hL : H L = some o) (x : Ext ρ F m H ρ1 F1 m1 H1) (M1 : MRel g ρ1 F1 m1 H1) : MRel g ρ1 F1 m1 (hide L H1) ∧ H1 L = some o := by
  have nl : ∀ n, Live m n → ρ n ≠ L := fun n ⟨u, e⟩ z => by
    obtain ⟨_, ho, h, _⟩ := M.mem n u e
    exact (hide_some h).1 z
  have nF : F1 L = none := by
    cases e : F1 L with
    | none => rfl
    | some u =>
      rcases x.new L u e with h | h | ⟨n, l, z⟩
      · have := M.free (hide_self (L := L) (H := H))
        rw [h] at this; cases this
      · rw [hL] at h; cases h
      · exact absurd z (nl n l)
  have nl1 : ∀ n, Live m1 n → ρ1 n ≠ L := fun n l z => by
    by_cases hn : n < m.length
    · rw [x.agr n hn] at z
      exact nl n (x.live hn l) z
    · have := x.fresh n (Nat.not_lt.mp hn) l
      rw [z, hL] at this; cases this
  refine ⟨⟨fun a u e => ?_, fun n u e => ?_, M1.inj⟩, x.frame L o hL nl⟩
  · have ne : a ≠ L := fun z => by rw [z, nF] at e; cases e
    rw [hide_ne ne]
    exact M1.sub a u e
  · obtain ⟨f, ho, h, r⟩ := M1.mem n u e
    exact ⟨f, ho, by rw [hide_ne (nl1 n ⟨u, e⟩)]; exact h, r⟩
end

/-! ### slots -/
theorem wipe_at {σ : L2.St} : ∀ {vs : List Nat} {i : Nat}, (wipe σ vs)[i]? = if i ∈ vs then (if i < σ.length then some none else none) else σ[i]?
  | [], i => by simp [wipe]
  | v :: vs, i => by
    unfold wipe
    by_cases e : v = i
    · subst e
      rw [if_pos List.mem_cons_self]
      by_cases hv : v < σ.length
      · rw [if_pos hv, List.getElem?_set_self (by rw [wipe_length]; exact hv)]
      · rw [if_neg hv]
        exact List.getElem?_eq_none (by simpa [wipe_length] using hv)
    · rw [List.getElem?_set_ne e, wipe_at (vs := vs)]
      have : (i ∈ v :: vs) ↔ i ∈ vs := by simp [Ne.symm e]
      simp only [this]
theorem wipe_same {σ σ2 : L2.St} {vs l : List Nat} (hl : ∀ i ∈ l, i ∈ vs) (h : Same l (wipe σ vs) σ2) : wipe σ2 vs = wipe σ vs := by
  have len : σ2.length = σ.length := by rw [h.1, wipe_length]
  apply List.ext_getElem?
  intro i
  rw [wipe_at, wipe_at]
  split
  · rw [len]
  · rename_i hi
    rw [h.2 i fun z => hi (hl i z), wipe_at, if_neg hi]
theorem RSl.wipe {g : Gn} {ρ : Rho} {F : Hp} {k : Nat} {δ : List (Option D)} {σ : L2.St} (h : RSl g ρ F k δ σ) : ∀ vs : List Nat, RSl g ρ F k (wipeD δ vs) (L2.wipe σ vs)
  | [] => h
  | v :: vs => (RSl.wipe h vs).wipe1 v

/-! ### the run -/
theorem calm_post {α β γ : Type} {g : Gn} {rel : Rho → Hp → Nat → β → γ → Prop} {ρ : Rho} {F : Hp} {m : Mem} {H : Hp} {r : R α} {K : α → Mem → R β} {Q : γ → Hp → Prop} {E : XK} (h : Post g rel ρ F m H (r.calm.bind K) Q E) : ∃ a m1, r = .ok a m1 ∧ Post g rel ρ F m H (K a m1) Q E := by
  cases r with
  | ok a m1 => exact ⟨a, m1, rfl, h⟩
  | ex x m1 => exact h.elim
  | no => exact h.elim
theorem calm_bind {α β : Type} {r : R α} {f : α → Mem → R β} : (r.bind f).calm = r.calm.bind fun a m => (f a m).calm := by cases r <;> rfl
theorem bind_bind {α β γ : Type} {r : R α} {f : α → Mem → R β} {k : β → Mem → R γ} : (r.bind f).bind k = r.bind fun a m => (f a m).bind k := by cases r <;> rfl
theorem bind_ext {α β : Type} {r : R α} {f k : α → Mem → R β} (h : ∀ a m, f a m = k a m) : r.bind f = r.bind k := by cases r <;> first | exact h _ _ | rfl
theorem lcRun_calm {f : D → Mem → R (Option D)} {t : Its} : ∀ {l : List D} {m : Mem} {x : Ex} {m1 : Mem}, lcRun f t l m ≠ .ex x m1
  | [], m, x, m1 => by
    unfold lcRun
    split <;> (intro h; cases h)
  | d :: l, m, x, m1 => by
    unfold lcRun
    split
    · intro h
      cases q : f d m with
      | ok o m2 =>
        rw [q] at h
        have h : ((lcRun f t l m2).bind fun ys m2 => R.ok (o.toList ++ ys) m2) = .ex x m1 := h
        cases q2 : lcRun f t l m2 with
        | ok ys m3 => rw [q2] at h; cases h
        | ex y m3 => exact lcRun_calm q2
        | no => rw [q2] at h; cases h
      | ex _ _ => rw [q] at h; cases h
      | no => rw [q] at h; cases h
    · intro h; cases h
abbrev W0 : WX := fun _ _ _ _ => False
section
variable {g : Gn} {W : WX} {X : Cx} {T' : Tb} {p : Pg} {lv : Nat} {cd : Cd}
/-- one turn's reading -/
def turn (rc : Sl → Mem → R Bool) (re : Sl → Mem → R D) (t : T) (δ : Sl) : D → Mem → R (Option D) := fun x m => (oR (asgT t x m δ) m).bind fun δ' m => (rc δ' m).bind fun k m => if k then (re δ' m).bind fun y m => .ok (some y) m else .ok none m
theorem e_lc (c : Cok g T' p lv X W cd) {mu : Bool} {elt tg iter : Expr} {ifs : List Expr} {scope : Scope} {own : List (Str × Nat)} {pos : Pos} {t : T} {rt : Sl → Mem → R Its} {rc : Sl → Mem → R Bool} {re : Sl → Mem → R D}
    (hi : PI X tg iter (rdIt g W rt)) (ok : BlkOk X.N X.env.scope scope own) (ho : ∀ i ∈ t.ixs, i ∈ own.map (·.2))
    (hg : ∀ (s : Shared) (H : Hp) (C : Addr) (cl : List (Str × Addr)) (fp : List Addr), PG (X.blk s H scope (compEnvC scope cl C X.env) fp) tg (rdG g t))
    (ht : ∀ (s : Shared) (H : Hp) (C : Addr) (cl : List (Str × Addr)) (fp : List Addr), PTs (X.blk s H scope (compEnvC scope cl C X.env) fp) ifs (rdT g W0 rc))
    (he : ∀ (s : Shared) (H : Hp) (C : Addr) (cl : List (Str × Addr)) (fp : List Addr), PE (X.blk s H scope (compEnvC scope cl C X.env) fp) elt (rdE g W0 re)) {σ : L2.St} {H : Hp} {Q : VK}
    (h : rdE g W (fun δ m => (rt δ m).bind fun its m => (lcRun (turn rc re t (wipeD δ (own.map (·.2)))) its its.l m).bind (mkL mu)) σ H Q) :
    tLc (rdIt g W rt) (rdG g t) (rdT g W0 rc) (rdE g W0 re) (own.map (·.2)) σ H Q := by
  refine rdX.bind h fun δ its m ρ F J H1 M rs RJ0 P => fun L hL => ?_
  obtain ⟨hline, RJ⟩ := RJ0
  generalize hf : turn rc re t (wipeD δ (own.map (·.2))) = f at P
  generalize hvs : own.map (·.2) = vs at *
  let Iv : Nat → Hp → Prop := fun i Hc => ∃ (ad : List D) (av : List V) (m' : Mem) (ρ' : Rho) (F' : Hp), Ext ρ F m H1 ρ' F' m' (hide L Hc) ∧ MRel g ρ' F' m' (hide L Hc) ∧ Hc L = some (.lst av) ∧ RDs g ρ' F' m'.length ad av ∧ ad.length ≤ i ∧
    PostD g ρ' F' m' (hide L Hc) ((lcRun f its (its.l.drop i) m').bind fun ys m => mkL mu (ad ++ ys) m) Q (WE W σ)
  have iv0 : Iv 0 (upd H1 L (.lst [])) := by
    refine ⟨[], [], m, ρ, F, ?_, ?_, upd_same, trivial, Nat.le_refl _, ?_⟩
    · rw [hide_upd, hide_none hL]; exact Ext.refl
    · rw [hide_upd, hide_none hL]; exact M
    · rw [hide_upd, hide_none hL]; exact P
  refine ⟨fun i n Hc => n = its.l.length - i ∧ i ≤ its.l.length ∧ Iv i Hc, ⟨_, rfl, Nat.zero_le _, iv0⟩, ?_⟩
  rintro i n Hc ⟨rfl, hi', ad, av, m', ρ', F', x1, M1, hc, rd, hal, P1⟩
  have on : On ρ F m.length ρ' F' m' := On.refl.ext x1
  by_cases hlt : i < its.l.length
  · have hdrop : its.l.drop i = its.l[i] :: its.l.drop (i + 1) := List.drop_eq_getElem_cons hlt
    rw [hdrop] at P1
    unfold lcRun at P1
    split at P1
    · rename_i held
      obtain ⟨go, yl⟩ := (RJ ρ' F' m' Hc on M1.unhide held i).1 its.l[i] (List.getElem?_eq_getElem hlt)
      refine .inr ⟨go, Iv (i + 1), fun H' q => ⟨_, by omega, rfl, hlt, q⟩, fun xv H' y => ?_⟩
      obtain ⟨F2, x2, M2, r2⟩ := yl xv H' y
      obtain ⟨M2h, hc2⟩ := M1.hidden hc x2 M2
      have P2 := Post.on (x2.hide (L := L)) P1
      rw [bind_bind] at P2
      obtain ⟨o, m3, eo, P3⟩ := calm_post P2
      -- the turn
      rw [← hf] at eo
      unfold turn at eo
      cases ea : asgT t its.l[i] m' (wipeD δ vs) with
      | none => rw [ea] at eo; cases eo
      | some δ' =>
        rw [ea] at eo
        have eo : ((rc δ' m').bind fun k m => if k then (re δ' m).bind fun y m => R.ok (some y) m else .ok none m) = .ok o m3 := eo
        have rs2 : RSl g ρ' F2 m'.length (wipeD δ vs) (wipe σ vs) := RSl.wipe ((rs.mono x1).mono (x2.hide (L := L))) vs
        refine ⟨its.l[i], wipeD δ vs, m', ρ', F2, δ', M2, r2, rs2, ea, fun σ2 rs3 same => ⟨wipe_same ho same, ?_⟩⟩
        cases ec : rc δ' m' with
        | no => rw [ec] at eo; cases eo
        | ex _ _ => rw [ec] at eo; cases eo
        | ok k m4 =>
          rw [ec] at eo
          have eo : (if k then (re δ' m4).bind fun y m => R.ok (some y) m else .ok none m4) = .ok o m3 := eo
          refine ⟨δ', m', ρ', F2, M2, rs3, ?_⟩
          rw [ec]
          intro v H4 ρ4 F4 x4 M4 ev
          subst ev
          obtain ⟨M4h, hc4⟩ := M2h.hidden hc2 x4 M4
          have P4 := Post.on (x4.hide (L := L)) P3
          cases v with
          | false =>
            rw [if_neg (by simp)] at eo ⊢
            injection eo with e1 e2
            subst e1 e2
            refine ⟨ad, av, m4, ρ4, F4, (x1.trans (x2.hide (L := L))).trans x4.hide, M4h, hc4, (rd.mono (x2.hide (L := L))).mono (x4.hide (L := L)), by omega, ?_⟩
            rw [bind_bind] at P4
            exact P4
          | true =>
            rw [if_pos rfl] at eo ⊢
            refine ⟨δ', m4, ρ4, F4, M4, rs3.mono x4, ?_⟩
            cases er : re δ' m4 with
            | no => rw [er] at eo; cases eo
            | ex _ _ => rw [er] at eo; cases eo
            | ok y m5 =>
              rw [er] at eo
              have eo : R.ok (some y) m5 = R.ok o m3 := eo
              injection eo with e1 e2
              subst e1 e2
              intro yv H5 ρ5 F5 x5 M5 r5
              obtain ⟨M5h, hc5⟩ := M4h.hidden hc4 x5 M5
              have P5 := Post.on (x5.hide (L := L)) P4
              have e5 : ((lcRun f its (its.l.drop (i + 1)) m5).bind fun ys m => mkL mu (ad ++ [y] ++ ys) m) = ((lcRun f its (its.l.drop (i + 1)) m5).bind fun ys m2 => R.ok ((some y).toList ++ ys) m2).bind fun ys m => mkL mu (ad ++ ys) m := by
                rw [bind_bind]
                refine bind_ext fun a m => ?_
                rw [List.append_assoc]
                rfl
              rw [← e5] at P5
              have rd5 := ((rd.mono (x2.hide (L := L))).mono (x4.hide (L := L))).mono (x5.hide (L := L))
              have hl2 := rd.length
              refine ⟨av, hc5, by omega, ad ++ [y], av ++ [yv], m5, ρ5, F5, ?_, ?_, upd_same, rd5.append ⟨r5, trivial⟩, by rw [List.length_append, List.length_singleton]; omega, ?_⟩
              · rw [hide_upd]; exact ((x1.trans (x2.hide (L := L))).trans x4.hide).trans x5.hide
              · rw [hide_upd]; exact M5h
              · rw [hide_upd]; exact P5
    · exact P1.elim
  · have e : i = its.l.length := by omega
    subst e
    rw [List.drop_length] at P1
    unfold lcRun at P1
    split at P1
    · rename_i held
      refine .inl ⟨(RJ ρ' F' m' Hc on M1.unhide held _).2 (List.getElem?_eq_none (Nat.le_refl _)), ?_⟩
      have P2 : PostD g ρ' F' m' (hide L Hc) (mkL mu (ad ++ []) m') Q (WE W σ) := P1
      rw [List.append_nil] at P2
      have := (mkL_post (by omega) P2 M1 rd).2 L hide_self
      rw [upd_hide hc] at this
      exact this
    · exact P1.elim
/-- a first clause's turn -/
def turnO (rc : Sl → Mem → R Bool) (t : T) (δ : Sl) : D → Mem → R (Option Sl) := fun x m => (oR (asgT t x m δ) m).bind fun δ' m => (rc δ' m).bind fun k m => .ok (if k then some δ' else none) m
theorem lc2_calm {f : D → Mem → R (Option Sl)} {h : Sl → Mem → R Its} {k : Sl → D → Mem → R (Option D)} {t : Its} : ∀ {l : List D} {m : Mem} {x : Ex} {m1 : Mem}, lc2Run f h k t l m ≠ .ex x m1
  | [], m, x, m1 => by
    unfold lc2Run
    split <;> (intro h; cases h)
  | d :: l, m, x, m1 => by
    unfold lc2Run
    split
    · cases f d m with
      | no => intro h; cases h
      | ex _ _ => intro h; cases h
      | ok o m2 =>
        cases o with
        | none => exact lc2_calm (l := l)
        | some δ1 =>
          show (h δ1 m2).calm.bind _ ≠ _
          cases h δ1 m2 with
          | no => intro h; cases h
          | ex _ _ => intro h; cases h
          | ok its1 m3 =>
            show (lcRun (k δ1) its1 its1.l m3).bind _ ≠ _
            cases q : lcRun (k δ1) its1 its1.l m3 with
            | no => intro h; cases h
            | ex _ _ => exact absurd q lcRun_calm
            | ok ys m4 =>
              show (lc2Run f h k t l m4).bind _ ≠ _
              cases q2 : lc2Run f h k t l m4 with
              | no => intro h; cases h
              | ex _ _ => exact absurd q2 lc2_calm
              | ok zs m5 => intro h; cases h
    · intro h; cases h
theorem ok_post {α β γ : Type} {rel : Rho → Hp → Nat → β → γ → Prop} {ρ : Rho} {F : Hp} {m : Mem} {H : Hp} {r : R α} {K : α → Mem → R β} {Q : γ → Hp → Prop} {E : XK} (hr : ∀ x m1, r ≠ .ex x m1) (h : Post g rel ρ F m H (r.bind K) Q E) : ∃ a m1, r = .ok a m1 ∧ Post g rel ρ F m H (K a m1) Q E := by
  cases r with
  | ok a m1 => exact ⟨a, m1, rfl, h⟩
  | ex x m1 => exact absurd rfl (hr x m1)
  | no => exact h.elim
theorem lnF_post {mu : Bool} {l : List D} {ρ : Rho} {F : Hp} {m m1 : Mem} {H : Hp} {Q : VK} {E : XK} (h : PostD g ρ F m H (lnS false (mkL mu) l m1) Q E) : l.length ≤ sizeLine ∧ PostD g ρ F m H (mkL mu l m1) Q E := by
  have h : PostD g ρ F m H (if l.length ≤ sizeLine then mkL mu l m1 else .no) Q E := h
  by_cases c : l.length ≤ sizeLine
  · rw [if_pos c] at h; exact ⟨c, h⟩
  · rw [if_neg c] at h; exact h.elim
theorem e_lc2 (c : Cok g T' p lv X W cd) {mu : Bool} {t t1 : T} {rt rt1 : Sl → Mem → R Its} {rc rc1 : Sl → Mem → R Bool} {re : Sl → Mem → R D} {vs vs1 : List Nat}
    (ho : ∀ i ∈ t.ixs, i ∈ vs) (ho1 : ∀ i ∈ t1.ixs, i ∈ vs1) {σ : L2.St} {H : Hp} {Q : VK}
    (h : rdE g W (fun δ m => (rt δ m).bind fun its m => (lc2Run (turnO rc t (wipeD δ vs)) rt1 (fun δ1 => turn rc1 re t1 (wipeD δ1 vs1)) its its.l m).bind (lnS false (mkL mu))) σ H Q) :
    tLc2 (rdIt g W rt) (rdG g t) (rdT g W0 rc) (rdIt g W0 rt1) (rdG g t1) (rdT g W0 rc1) (rdE g W0 re) vs vs1 σ H Q := by
  refine rdX.bind h fun δ its m ρ F J H1 M rs RJ0 P => fun L hL => ?_
  obtain ⟨hline, RJ⟩ := RJ0
  generalize hf : turnO rc t (wipeD δ vs) = f at P
  generalize hk : (fun δ1 => turn rc1 re t1 (wipeD δ1 vs1)) = k at P
  let Iv : Nat → Hp → Prop := fun i Hc => ∃ (ad : List D) (av : List V) (m' : Mem) (ρ' : Rho) (F' : Hp), Ext ρ F m H1 ρ' F' m' (hide L Hc) ∧ MRel g ρ' F' m' (hide L Hc) ∧ Hc L = some (.lst av) ∧ RDs g ρ' F' m'.length ad av ∧
    PostD g ρ' F' m' (hide L Hc) ((lc2Run f rt1 k its (its.l.drop i) m').bind fun ys m => lnS false (mkL mu) (ad ++ ys) m) Q (WE W σ)
  have iv0 : Iv 0 (upd H1 L (.lst [])) := by
    refine ⟨[], [], m, ρ, F, ?_, ?_, upd_same, trivial, ?_⟩
    · rw [hide_upd, hide_none hL]; exact Ext.refl
    · rw [hide_upd, hide_none hL]; exact M
    · rw [hide_upd, hide_none hL]; exact P
  refine ⟨fun i n Hc => n = its.l.length - i ∧ i ≤ its.l.length ∧ Iv i Hc, ⟨_, rfl, Nat.zero_le _, iv0⟩, ?_⟩
  rintro i n Hc ⟨rfl, hi', ad, av, m', ρ', F', x1, M1, hc, rd, P1⟩
  have on : On ρ F m.length ρ' F' m' := On.refl.ext x1
  by_cases hlt : i < its.l.length
  · have hdrop : its.l.drop i = its.l[i] :: its.l.drop (i + 1) := List.drop_eq_getElem_cons hlt
    rw [hdrop] at P1
    unfold lc2Run at P1
    split at P1
    · rename_i held
      obtain ⟨go, yl⟩ := (RJ ρ' F' m' Hc on M1.unhide held i).1 its.l[i] (List.getElem?_eq_getElem hlt)
      refine .inr ⟨go, Iv (i + 1), fun H' q => ⟨_, by omega, rfl, hlt, q⟩, fun xv H' y => ?_⟩
      obtain ⟨F2, x2, M2, r2⟩ := yl xv H' y
      obtain ⟨M2h, hc2⟩ := M1.hidden hc x2 M2
      have P2 := Post.on (x2.hide (L := L)) P1
      rw [bind_bind] at P2
      obtain ⟨o, m3, eo, P3⟩ := calm_post P2
      rw [← hf] at eo
      unfold turnO at eo
      cases ea : asgT t its.l[i] m' (wipeD δ vs) with
      | none => rw [ea] at eo; cases eo
      | some δ' =>
        rw [ea] at eo
        have eo : ((rc δ' m').bind fun k m => R.ok (if k then some δ' else none) m) = .ok o m3 := eo
        have rs2 : RSl g ρ' F2 m'.length (wipeD δ vs) (wipe σ vs) := RSl.wipe ((rs.mono x1).mono (x2.hide (L := L))) vs
        refine ⟨its.l[i], wipeD δ vs, m', ρ', F2, δ', M2, r2, rs2, ea, fun σ2 rs3 same => ⟨wipe_same ho same, ?_⟩⟩
        cases ec : rc δ' m' with
        | no => rw [ec] at eo; cases eo
        | ex _ _ => rw [ec] at eo; cases eo
        | ok kk m4 =>
          rw [ec] at eo
          have eo : R.ok (if kk then some δ' else none) m4 = .ok o m3 := eo
          injection eo with e1 e2
          subst e1 e2
          refine ⟨δ', m', ρ', F2, M2, rs3, ?_⟩
          rw [ec]
          intro v H4 ρ4 F4 x4 M4 ev
          subst ev
          obtain ⟨M4h, hc4⟩ := M2h.hidden hc2 x4 M4
          have P4 := Post.on (x4.hide (L := L)) P3
          cases v with
          | false =>
            exact ⟨ad, av, m4, ρ4, F4, (x1.trans (x2.hide (L := L))).trans x4.hide, M4h, hc4, (rd.mono (x2.hide (L := L))).mono (x4.hide (L := L)), P4⟩
          | true =>
            have P4 : PostD g ρ4 F4 m4 (hide L H4) (((rt1 δ' m4).calm.bind fun its1 m2 => (lcRun (k δ') its1 its1.l m2).bind fun ys m3 => (lc2Run f rt1 k its (its.l.drop (i + 1)) m3).bind fun zs m4 => .ok (ys ++ zs) m4).bind fun ys m => lnS false (mkL mu) (ad ++ ys) m) Q (WE W σ) := P4
            rw [bind_bind] at P4
            obtain ⟨its1, m5, e1, P5⟩ := calm_post P4
            refine ⟨δ', m4, ρ4, F4, M4, rs3.mono x4, ?_⟩
            rw [e1]
            intro J1 H5 ρ5 F5 x5 M5 RJ1
            obtain ⟨hl1, RJ1⟩ := RJ1
            obtain ⟨M5h, hc5⟩ := M4h.hidden hc4 x5 M5
            have P6 := Post.on (x5.hide (L := L)) P5
            have rd5 := ((rd.mono (x2.hide (L := L))).mono (x4.hide (L := L))).mono (x5.hide (L := L))
            let Iv1 : Nat → Hp → Prop := fun j Hd => ∃ (ad1 : List D) (av1 : List V) (m6 : Mem) (ρ6 : Rho) (F6 : Hp), Ext ρ5 F5 m5 (hide L H5) ρ6 F6 m6 (hide L Hd) ∧ MRel g ρ6 F6 m6 (hide L Hd) ∧ Hd L = some (.lst av1) ∧ RDs g ρ6 F6 m6.length ad1 av1 ∧
              PostD g ρ6 F6 m6 (hide L Hd) ((lcRun (k δ') its1 (its1.l.drop j) m6).bind fun ys m => (lc2Run f rt1 k its (its.l.drop (i + 1)) m).bind fun zs m => lnS false (mkL mu) (ad1 ++ (ys ++ zs)) m) Q (WE W σ)
            have iv10 : Iv1 0 H5 := by
              refine ⟨ad, av, m5, ρ5, F5, Ext.refl, M5h, hc5, rd5, ?_⟩
              rw [bind_bind] at P6
              have e : ((lcRun (k δ') its1 its1.l m5).bind fun a m => ((lc2Run f rt1 k its (its.l.drop (i + 1)) m).bind fun zs m4 => R.ok (a ++ zs) m4).bind fun ys m => lnS false (mkL mu) (ad ++ ys) m) = ((lcRun (k δ') its1 (its1.l.drop 0) m5).bind fun ys m => (lc2Run f rt1 k its (its.l.drop (i + 1)) m).bind fun zs m => lnS false (mkL mu) (ad ++ (ys ++ zs)) m) := by
                rw [List.drop_zero]
                exact bind_ext fun a m => bind_bind
              rw [← e]
              exact P6
            refine ⟨fun j n Hd => n = its1.l.length - j ∧ j ≤ its1.l.length ∧ Iv1 j Hd, ⟨_, rfl, Nat.zero_le _, iv10⟩, ?_⟩
            rintro j n Hd ⟨rfl, hj', ad1, av1, m6, ρ6, F6, x6, M6, hc6, rd6, P7⟩
            have on1 : On ρ5 F5 m5.length ρ6 F6 m6 := On.refl.ext x6
            by_cases hlt1 : j < its1.l.length
            · have hdrop1 : its1.l.drop j = its1.l[j] :: its1.l.drop (j + 1) := List.drop_eq_getElem_cons hlt1
              rw [hdrop1] at P7
              unfold lcRun at P7
              split at P7
              · rename_i held1
                obtain ⟨go1, yl1⟩ := (RJ1 ρ6 F6 m6 Hd on1 M6.unhide held1 j).1 its1.l[j] (List.getElem?_eq_getElem hlt1)
                refine .inr ⟨go1, Iv1 (j + 1), fun H' q => ⟨_, by omega, rfl, hlt1, q⟩, fun xv1 H6 y1 => ?_⟩
                obtain ⟨F7, x7, M7, r7⟩ := yl1 xv1 H6 y1
                obtain ⟨M7h, hc7⟩ := M6.hidden hc6 x7 M7
                have P8 := Post.on (x7.hide (L := L)) P7
                rw [bind_bind] at P8
                obtain ⟨o1, m7, eo1, P9⟩ := calm_post P8
                rw [← hk] at eo1
                unfold turn at eo1
                dsimp only at eo1
                cases ea1 : asgT t1 its1.l[j] m6 (wipeD δ' vs1) with
                | none => rw [ea1] at eo1; cases eo1
                | some δ2 =>
                  rw [ea1] at eo1
                  have eo1 : ((rc1 δ2 m6).bind fun k m => if k then (re δ2 m).bind fun y m => R.ok (some y) m else .ok none m) = .ok o1 m7 := eo1
                  have rs7 : RSl g ρ6 F7 m6.length (wipeD δ' vs1) (wipe σ2 vs1) := RSl.wipe ((((rs3.mono x4).mono x5).mono x6).mono (x7.hide (L := L))) vs1
                  refine ⟨its1.l[j], wipeD δ' vs1, m6, ρ6, F7, δ2, M7, r7, rs7, ea1, fun σ3 rs8 same1 => ⟨wipe_same ho1 same1, ?_⟩⟩
                  cases ec1 : rc1 δ2 m6 with
                  | no => rw [ec1] at eo1; cases eo1
                  | ex _ _ => rw [ec1] at eo1; cases eo1
                  | ok k2 m8 =>
                    rw [ec1] at eo1
                    have eo1 : (if k2 then (re δ2 m8).bind fun y m => R.ok (some y) m else .ok none m8) = .ok o1 m7 := eo1
                    refine ⟨δ2, m6, ρ6, F7, M7, rs8, ?_⟩
                    rw [ec1]
                    intro v2 H8 ρ8 F8 x8 M8 ev2
                    subst ev2
                    obtain ⟨M8h, hc8⟩ := M7h.hidden hc7 x8 M8
                    have P10 := Post.on (x8.hide (L := L)) P9
                    cases v2 with
                    | false =>
                      rw [if_neg (by simp)] at eo1 ⊢
                      injection eo1 with e1 e2
                      subst e1 e2
                      refine ⟨ad1, av1, m8, ρ8, F8, (x6.trans (x7.hide (L := L))).trans x8.hide, M8h, hc8, (rd6.mono (x7.hide (L := L))).mono (x8.hide (L := L)), ?_⟩
                      rw [bind_bind] at P10
                      exact P10
                    | true =>
                      rw [if_pos rfl] at eo1 ⊢
                      refine ⟨δ2, m8, ρ8, F8, M8, rs8.mono x8, ?_⟩
                      cases er : re δ2 m8 with
                      | no => rw [er] at eo1; cases eo1
                      | ex _ _ => rw [er] at eo1; cases eo1
                      | ok y m9 =>
                        rw [er] at eo1
                        have eo1 : R.ok (some y) m9 = R.ok o1 m7 := eo1
                        injection eo1 with e1 e2
                        subst e1 e2
                        intro yv H9 ρ9 F9 x9 M9 r9
                        obtain ⟨M9h, hc9⟩ := M8h.hidden hc8 x9 M9
                        have P11 := Post.on (x9.hide (L := L)) P10
                        have e9 : ((lcRun (k δ') its1 (its1.l.drop (j + 1)) m9).bind fun ys m => (lc2Run f rt1 k its (its.l.drop (i + 1)) m).bind fun zs m => lnS false (mkL mu) (ad1 ++ [y] ++ (ys ++ zs)) m) = ((lcRun (k δ') its1 (its1.l.drop (j + 1)) m9).bind fun ys m2 => R.ok ((some y).toList ++ ys) m2).bind fun ys m => (lc2Run f rt1 k its (its.l.drop (i + 1)) m).bind fun zs m => lnS false (mkL mu) (ad1 ++ (ys ++ zs)) m := by
                          rw [bind_bind]
                          refine bind_ext fun a m => ?_
                          show _ = (lc2Run f rt1 k its (its.l.drop (i + 1)) m).bind fun zs m => lnS false (mkL mu) (ad1 ++ ([y] ++ a ++ zs)) m
                          refine bind_ext fun b m => ?_
                          rw [List.append_assoc, List.append_assoc]
                        rw [← e9] at P11
                        have rd9 := ((rd6.mono (x7.hide (L := L))).mono (x8.hide (L := L))).mono (x9.hide (L := L))
                        have lz : ad1.length < sizeLine := by
                          obtain ⟨ys, m10, _, P12⟩ := ok_post (fun _ _ => lcRun_calm) P11
                          obtain ⟨zs, m11, _, P13⟩ := ok_post (fun _ _ => lc2_calm) P12
                          have := (lnF_post P13).1
                          simp only [List.length_append, List.length_singleton] at this
                          omega
                        have hl2 := rd6.length
                        refine ⟨av1, hc9, by omega, ad1 ++ [y], av1 ++ [yv], m9, ρ9, F9, ?_, ?_, upd_same, rd9.append ⟨r9, trivial⟩, ?_⟩
                        · rw [hide_upd]; exact ((x6.trans (x7.hide (L := L))).trans x8.hide).trans x9.hide
                        · rw [hide_upd]; exact M9h
                        · rw [hide_upd]; exact P11
              · exact P7.elim
            · have e : j = its1.l.length := by omega
              subst e
              rw [List.drop_length] at P7
              unfold lcRun at P7
              split at P7
              · rename_i held1
                refine .inl ⟨(RJ1 ρ6 F6 m6 Hd on1 M6.unhide held1 _).2 (List.getElem?_eq_none (Nat.le_refl _)), ?_⟩
                have P8 : PostD g ρ6 F6 m6 (hide L Hd) ((lc2Run f rt1 k its (its.l.drop (i + 1)) m6).bind fun zs m => lnS false (mkL mu) (ad1 ++ ([] ++ zs)) m) Q (WE W σ) := P7
                exact ⟨ad1, av1, m6, ρ6, F6, (((x1.trans (x2.hide (L := L))).trans x4.hide).trans x5.hide).trans x6, M6, hc6, rd6, P8⟩
              · exact P7.elim
    · exact P1.elim
  · have e : i = its.l.length := by omega
    subst e
    rw [List.drop_length] at P1
    unfold lc2Run at P1
    split at P1
    · rename_i held
      refine .inl ⟨(RJ ρ' F' m' Hc on M1.unhide held _).2 (List.getElem?_eq_none (Nat.le_refl _)), ?_⟩
      have P2 : PostD g ρ' F' m' (hide L Hc) (lnS false (mkL mu) (ad ++ []) m') Q (WE W σ) := P1
      rw [List.append_nil] at P2
      obtain ⟨lz, P3⟩ := lnF_post P2
      have := (mkL_post lz P3 M1 rd).2 L hide_self
      rw [upd_hide hc] at this
      exact this
    · exact P1.elim
end
end Dn

/-! Dn, part M: the check of expressions; it is enough. -/
namespace Dn
open PySem PySem.Spec PyProof.Rows L2

/-! ### keywords -/
theorem _root_.L2.PK.imp {X : Cx} {e : List Keyword} {t t' : TA} (h : PK X e t) (k : ∀ σ H Q, t' σ H Q → t σ H Q) : PK X e t' := ⟨fun pos pins s σ H Q I q => h.run pos pins s σ H Q I (k σ H Q q)⟩
def kwNames : List Keyword → Option (List Str)
  | [] => some []
  | ⟨some n, _, _⟩ :: l => (kwNames l).map (n :: ·)
  | ⟨none, _, _⟩ :: _ => none
theorem kw_ok {pos : Pos} {env : Env} : ∀ {l : List Keyword} {ks : List Str}, kwNames l = some ks → (backToKw pos (keywordEach l env)).all (·.1.isSome) = true ∧ (backToKw pos (keywordEach l env)).filterMap (·.1) = ks ∧ (backToKw pos (keywordEach l env)).any (·.1.isNone) = false
  | [], ks, h => by cases h; exact ⟨rfl, rfl, rfl⟩
  | ⟨some n, e, kp⟩ :: l, ks, h => by
    obtain ⟨ks', h1, rfl⟩ := Option.map_eq_some_iff.mp (show (kwNames l).map (n :: ·) = some ks from h)
    obtain ⟨a, b, c⟩ := kw_ok (pos := pos) (env := env) h1
    refine ⟨?_, ?_, ?_⟩
    · show (true && (backToKw pos (keywordEach l env)).all (·.1.isSome)) = true
      rw [a]; rfl
    · show n :: (backToKw pos (keywordEach l env)).filterMap (·.1) = _
      rw [b]
    · show (false || (backToKw pos (keywordEach l env)).any (·.1.isNone)) = false
      rw [c]; rfl
  | ⟨none, _, _⟩ :: _, _, h => by cases h
section
variable {g : Gn} {W : WX} {X : Cx} {T : Tb} {p : Pg} {lv : Nat} {cd : Cd}
theorem perm_get {ρ : Rho} {F : Hp} {k : Nat} {l : List D} {vs : List V} (r : RDs g ρ F k l vs) : ∀ (pm : List Nat), (∀ i ∈ pm, i < l.length) → RDs g ρ F k (pm.filterMap (l[·]?)) (pm.filterMap (vs[·]?))
  | [], _ => trivial
  | i :: pm, h => by
    have hi := h i List.mem_cons_self
    have e : l[i]? = some l[i] := List.getElem?_eq_getElem hi
    obtain ⟨v, e1, r1⟩ := r.get e
    rw [List.filterMap_cons, List.filterMap_cons, e, e1]
    exact ⟨r1, perm_get r pm fun j hj => h j (List.mem_cons_of_mem _ hj)⟩
theorem perm_len {α : Type} {l : List α} : ∀ (pm : List Nat), (∀ i ∈ pm, i < l.length) → (pm.filterMap (l[·]?)).length = pm.length
  | [], _ => rfl
  | i :: pm, h => by
    have hi := h i List.mem_cons_self
    have e : l[i]? = some l[i] := List.getElem?_eq_getElem hi
    rw [List.filterMap_cons, e]
    exact congrArg Nat.succ (perm_len pm fun j hj => h j (List.mem_cons_of_mem _ hj))
theorem code_kw (c : Cok g T p lv X W cd) {f np : Nat} {a : Addr} {fd : FuncData} {ps ks : List Str} {pm : List Nat} {pins : List (Addr × Obj)} {σ : L2.St} {H : Hp} {s : Shared} {Q : VK} {us ws : List Value} {vs zs : List V}
    (Fn : FnOk X.prog X.w X.K X.mg X.base (L2.CX X.prog X.w) (3 * lv + 2) a fd ps (fun vs H Q E => vs.length = ps.length ∧ ∃ ds m ρ F, MRel g ρ F m H ∧ RDs g ρ F m.length ds vs ∧ PostD g ρ F m H (callAt p lv f ds m) Q E))
    (hp : pm.length = ps.length) (hi : ∀ i ∈ pm, i < np + ks.length) (hb : KBn X.K fd ps np ks (permL pm) (permL pm))
    (I : Inv X pins σ H s) (r : Vals vs us) (rz : Vals zs ws) (l1 : vs.length = np) (l2 : zs.length = ks.length) {ds es : List D} {m : Mem} {ρ : Rho} {F : Hp} (M : MRel g ρ F m H) (rd : RDs g ρ F m.length ds vs) (re : RDs g ρ F m.length es zs)
    (h : PostD g ρ F m H (callAt p lv f (permL pm ds es) m) Q (WE W σ)) : codeAny (model X.prog X.w) X.A (.call (.ref a) ⟨us, ks.zip ws⟩) (wants (EP X pins σ Q) X.xe) s := by
  have r2 := hb.rel r rz
  have hi' : ∀ i ∈ pm, i < (ds ++ es).length := fun i q => by rw [List.length_append, rd.length, re.length, l1, l2]; exact hi i q
  have hi2 : ∀ i ∈ pm, i < (vs ++ zs).length := fun i q => by rw [List.length_append, l1, l2]; exact hi i q
  refine codeAny_mono (Fn.run X.A X.stack s H ⟨us, ks.zip ws⟩ (permL pm us ws) (permL pm vs zs) Q (WE W σ) (c.room.mono (by omega)) I.env0 (hb.to s us ws I.kIn (r.length.symm.trans l1) (rz.length.symm.trans l2)) r2
    ⟨(perm_len pm hi2).trans hp, _, m, ρ, F, M, perm_get (rd.append re) pm hi', h⟩) fun r s' hq => ?_
  cases r with
  | error e => exact c.tk e s' (XE.of_call I (fun _ _ _ h => h) hq)
  | ok fl =>
    cases fl with
    | ret u => exact I.after hq
    | next => exact False.elim hq
    | brk => exact False.elim hq
    | cont => exact False.elim hq
theorem run_kw (c : Cok g T p lv X W cd) {f np : Nat} {a : Addr} {fd : FuncData} {ps ks : List Str} {pm : List Nat} {pins : List (Addr × Obj)} {σ : L2.St} {H : Hp} {s : Shared} {Q : VK} {us ws : List Value} {vs zs : List V}
    (Fn : FnOk X.prog X.w X.K X.mg X.base (L2.CX X.prog X.w) (3 * lv + 2) a fd ps (fun vs H Q E => vs.length = ps.length ∧ ∃ ds m ρ F, MRel g ρ F m H ∧ RDs g ρ F m.length ds vs ∧ PostD g ρ F m H (callAt p lv f ds m) Q E))
    (hp : pm.length = ps.length) (hi : ∀ i ∈ pm, i < np + ks.length) (hb : KBn X.K fd ps np ks (permL pm) (permL pm))
    (I : Inv X pins σ H s) (r : Vals vs us) (rz : Vals zs ws) (l1 : vs.length = np) (l2 : zs.length = ks.length) {ds es : List D} {m : Mem} {ρ : Rho} {F : Hp} (M : MRel g ρ F m H) (rd : RDs g ρ F m.length ds vs) (re : RDs g ρ F m.length es zs)
    (h : PostD g ρ F m H (callAt p lv f (permL pm ds es) m) Q (WE W σ)) : wpAny (model X.prog X.w) X.A (call (.ref a) us (ks.zip ws)) (EP X pins σ Q) X.xe s := by
  have r2 := hb.rel r rz
  have hi' : ∀ i ∈ pm, i < (ds ++ es).length := fun i q => by rw [List.length_append, rd.length, re.length, l1, l2]; exact hi i q
  have hi2 : ∀ i ∈ pm, i < (vs ++ zs).length := fun i q => by rw [List.length_append, l1, l2]; exact hi i q
  refine wpAny_call (codeAny_mono (Fn.run X.A X.stack s H ⟨us, ks.zip ws⟩ (permL pm us ws) (permL pm vs zs) Q (WE W σ) (c.room.mono (by omega)) I.env0 (hb.to s us ws I.kIn (r.length.symm.trans l1) (rz.length.symm.trans l2)) r2
    ⟨(perm_len pm hi2).trans hp, _, m, ρ, F, M, perm_get (rd.append re) pm hi', h⟩) fun r s' hq => ?_)
  cases r with
  | error e => exact c.tk e s' (XE.of_call I (fun _ _ _ h => h) hq)
  | ok fl =>
    cases fl with
    | ret u => exact I.after hq
    | next => exact False.elim hq
    | brk => exact False.elim hq
    | cont => exact False.elim hq
theorem k_nil : PK X [] (rdA g W fun _ m => .ok [] m) := pk_nil.imp fun σ H Q ⟨δ, m, ρ, F, M, rs, P⟩ => P.val M trivial
theorem k_cons {n : Option Str} {kp : Pos} {e : Expr} {es : List Keyword} {ra : Sl → Mem → R D} {rl : Sl → Mem → R (List D)} (he : PE X e (rdE g W ra)) (hl : PK X es (rdA g W rl)) :
    PK X (⟨n, e, kp⟩ :: es) (rdA g W fun δ m => (ra δ m).bind fun x m => (rl δ m).bind fun xs m => .ok (x :: xs) m) := by
  refine (pk_cons he hl).imp fun σ H Q h => rdX.bind h fun δ d m ρ F v H' M rs r P => ?_
  exact ⟨δ, m, ρ, F, M, rs, P.bind fun l m2 vs H2 ρ2 F2 x2 M2 r2 P2 => P2.val M2 ⟨r.mono x2, r2⟩⟩
/-- how many values come -/
theorem e_callK (c : Cok g T p lv X W cd) {f np : Nat} {x : Str} {npos pos : Pos} {e : Expr} {es : List Expr} {kws : List Keyword} {ks : List Str} {pm : List Nat} {rl rk : Sl → Mem → R (List D)} (hf : T.fn f = some x) (hpm : T.kw f np ks = some pm) (hv : isGl cd x = true) (hd : nodb x = true)
    (hl : PA X (e :: es) (rdA g W rl)) (hk : PK X kws (rdA g W rk)) (hn : (e :: es).all noStar = true) (hks : kwNames kws = some ks) (h1 : ∀ δ m xs m', rl δ m = .ok xs m' → xs.length = np) (h2 : ∀ δ m xs m', rk δ m = .ok xs m' → xs.length = ks.length) :
    PE X (.Call (.Name x npos) (e :: es) kws pos) (rdE g W fun δ m => (rl δ m).bind fun xs m => (rk δ m).bind fun zs m => callAt p lv f (permL pm xs zs) m) := by
  obtain ⟨a, fd, ps, q1, q2, Fn, q3, q4, q5⟩ := c.callK f x np ks pm hf hpm
  refine ⟨fun pins s σ H Q I h => ?_⟩
  refine wpAny_Call_Name_kw (ld_glob I (c.glb hv) q1 ?_ (nodb_ok hd).1)
  obtain ⟨k1, k2, k3⟩ := kw_ok (pos := pos) (env := X.env) hks
  have h' : rdA g W rl σ H fun vs H1 => rdA g W rk σ H1 fun zs H2 => vs.length = np ∧ zs.length = ks.length ∧ ∃ ds es m ρ F, MRel g ρ F m H2 ∧ RDs g ρ F m.length ds vs ∧ RDs g ρ F m.length es zs ∧ PostD g ρ F m H2 (callAt p lv f (permL pm ds es) m) Q (WE W σ) := by
    obtain ⟨δ, m, ρ, F, M, rs, P⟩ := h
    dsimp only at P
    cases e1 : rl δ m with
    | no => rw [e1] at P; exact P.elim
    | ex z m' => rw [e1] at P; exact ⟨δ, m, ρ, F, M, rs, by rw [e1]; exact P⟩
    | ok xs m' =>
      rw [e1] at P
      refine ⟨δ, m, ρ, F, M, rs, ?_⟩
      rw [e1]
      intro vs H1 ρ1 F1 x1 M1 r1
      have P1 := Post.on x1 (show PostD g ρ F m H ((rk δ m').bind fun zs m => callAt p lv f (permL pm xs zs) m) Q (WE W σ) from P)
      cases e2 : rk δ m' with
      | no => rw [e2] at P1; exact P1.elim
      | ex z m2 => rw [e2] at P1; exact ⟨δ, m', ρ1, F1, M1, rs.mono x1, by rw [e2]; exact P1⟩
      | ok zs m2 =>
        rw [e2] at P1
        refine ⟨δ, m', ρ1, F1, M1, rs.mono x1, ?_⟩
        rw [e2]
        intro us H2 ρ2 F2 x2 M2 r2
        exact ⟨by rw [← r1.length]; exact h1 _ _ _ _ e1, by rw [← r2.length]; exact h2 _ _ _ _ e2, xs, zs, m2, ρ2, F2, M2, r1.mono x2, r2, Post.on x2 P1⟩
  rw [List.all_cons, Bool.and_eq_true] at hn
  refine PySem.W.callWith_KW (h₀ := X.base) I.ok.mod.kin q2 k1 (thn (hl.run pos pins s σ H _ I h') fun us s1 ⟨vs, H1, I1, r, qk⟩ => ?_) ?_ (star_cons hn.1)
  · refine thn (hk.run pos pins s1 σ H1 _ I1 qk) fun ws s2 ⟨zs, H2, I2, rz, l1, l2, ds, es', m, ρ, F, M, rd, re, q⟩ => ⟨I2.kIn, ?_⟩
    rw [k2]
    exact run_kw c Fn q3 q4 q5 I2 r rz l1 l2 M rd re q
  · rw [k3, Bool.or_false, star_cons hn.1]
    show (false || (backTo pos (starEach es X.env)).any (·.1)) = false
    rw [plain_any hn.2]
    rfl
theorem e_callK0 (c : Cok g T p lv X W cd) {f : Nat} {x : Str} {npos pos : Pos} {kws : List Keyword} {ks : List Str} {pm : List Nat} {rk : Sl → Mem → R (List D)} (hf : T.fn f = some x) (hpm : T.kw f 0 ks = some pm) (hv : isGl cd x = true) (hd : nodb x = true)
    (hk : PK X kws (rdA g W rk)) (hks : kwNames kws = some ks) (h2 : ∀ δ m xs m', rk δ m = .ok xs m' → xs.length = ks.length) :
    PE X (.Call (.Name x npos) [] kws pos) (rdE g W fun δ m => (R.ok [] m).bind fun xs m => (rk δ m).bind fun zs m => callAt p lv f (permL pm xs zs) m) := by
  obtain ⟨a, fd, ps, q1, q2, Fn, q3, q4, q5⟩ := c.callK f x 0 ks pm hf hpm
  refine ⟨fun pins s σ H Q I h => ?_⟩
  refine wpAny_Call_Name_kw (ld_glob I (c.glb hv) q1 ?_ (nodb_ok hd).1)
  obtain ⟨k1, k2, k3⟩ := kw_ok (pos := pos) (env := X.env) hks
  have h' : rdA g W rk σ H fun zs H2 => zs.length = ks.length ∧ ∃ es m ρ F, MRel g ρ F m H2 ∧ RDs g ρ F m.length es zs ∧ PostD g ρ F m H2 (callAt p lv f (permL pm [] es) m) Q (WE W σ) := by
    obtain ⟨δ, m, ρ, F, M, rs, P⟩ := h
    have P : PostD g ρ F m H ((rk δ m).bind fun zs m => callAt p lv f (permL pm [] zs) m) Q (WE W σ) := P
    cases e2 : rk δ m with
    | no => rw [e2] at P; exact P.elim
    | ex z m2 => rw [e2] at P; exact ⟨δ, m, ρ, F, M, rs, by rw [e2]; exact P⟩
    | ok zs m2 =>
      rw [e2] at P
      refine ⟨δ, m, ρ, F, M, rs, ?_⟩
      rw [e2]
      intro us H2 ρ2 F2 x2 M2 r2
      exact ⟨by rw [← r2.length]; exact h2 _ _ _ _ e2, zs, m2, ρ2, F2, M2, r2, Post.on x2 P⟩
  refine PySem.W.callWith_KW0 (h₀ := X.base) I.ok.mod.kin q2 k1 (thn (hk.run pos pins s σ H _ I h') fun ws s2 ⟨zs, H2, I2, rz, l2, es', m, ρ, F, M, re, q⟩ => ⟨I2.kIn, ?_⟩) ?_
  · rw [k2]
    exact run_kw c (us := []) (vs := []) Fn q3 q4 q5 I2 .nil rz rfl l2 M (ds := []) trivial re q
  · rw [k3, Bool.or_false]
    rfl
end
end Dn

/-! Dn, part Y: instances, classes, texts. -/
namespace Dn
open PySem PySem.Spec PyProof.Rows L2
section
variable {g : Gn} {W : WX} {X : Cx} {T : Tb} {p : Pg} {lv : Nat} {cd : Cd} {ρ : Rho} {F H : Hp} {m : Mem}
theorem str_beq_ne {a b : Str} (h : a ≠ b) : (a == b) = false := by simpa using h
theorem lookF_rp (inj : ∀ a b, g.fN a = g.fN b → a = b) {f : Nat} : ∀ {l : List (Nat × Dn.P)} {fs : List (Str × V)}, RPf g H l fs → OptR g H (lookF l f) (fs.lookup (g.fN f))
  | _, _, .nil => rfl
  | _, _, .cons (n := n) (x := x) h t => by
    unfold lookF
    rw [List.lookup_cons]
    by_cases e : n = f
    · subst e
      rw [if_pos rfl, beq_self_eq_true]
      exact ⟨_, rfl, h⟩
    · rw [if_neg e, str_beq_ne fun z => e (inj _ _ z).symm]
      exact lookF_rp inj t
theorem lookF_rd (inj : ∀ a b, g.fN a = g.fN b → a = b) {k f : Nat} : ∀ {l : List (Nat × D)} {fs : List (Str × V)}, RDf g ρ F k l fs → OptD g ρ F k (lookF l f) (fs.lookup (g.fN f))
  | [], [], _ => rfl
  | (n, x) :: l, (s, v) :: fs, h => by
    obtain ⟨⟨h1, h2⟩, h3⟩ := h
    dsimp only at h1 h2
    subst h1
    unfold lookF
    rw [List.lookup_cons]
    by_cases e : n = f
    · subst e
      rw [if_pos rfl, beq_self_eq_true]
      exact ⟨v, rfl, h2⟩
    · rw [if_neg e, str_beq_ne fun z => e (inj _ _ z).symm]
      exact lookF_rd inj h3
  | [], _ :: _, h => h.elim
  | _ :: _, [], h => h.elim
theorem names_rp {x : Str} (h : ∀ j, g.fN j ≠ x) : ∀ {l : List (Nat × Dn.P)} {fs : List (Str × V)}, RPf g H l fs → fs.lookup x = none
  | _, _, .nil => rfl
  | _, _, .cons (n := n) _ t => by
    rw [List.lookup_cons, str_beq_ne fun z => h n z.symm]
    exact names_rp h t
theorem names_rd {x : Str} {k : Nat} (h : ∀ j, g.fN j ≠ x) : ∀ {l : List (Nat × D)} {fs : List (Str × V)}, RDf g ρ F k l fs → fs.lookup x = none
  | [], [], _ => rfl
  | (n, _) :: l, (s, v) :: fs, q => by
    obtain ⟨⟨h1, _⟩, h3⟩ := q
    dsimp only at h1
    rw [List.lookup_cons, h1, str_beq_ne fun z => h n z.symm]
    exact names_rd h h3
  | [], _ :: _, h => h.elim
  | _ :: _, [], h => h.elim
/-- an instance, read -/
theorem ins_look (M : MRel g ρ F m H) {d : D} {v : V} {c : Nat} (e : clsS d m = some c) (r : RD g ρ F m.length d v) :
    ∃ a dx fs, v = .ref a ∧ H a = some (.ins (g.cA c) dx fs) ∧ g.cs c = true ∧ ((∃ l, d = .p (.ins c l) ∧ RPf g F l fs) ∨ ∃ n l, d = .ref n ∧ m.get n = some (.ins c l) ∧ RDf g ρ F m.length l fs) := by
  unfold clsS at e
  split at e
  · cases e
    cases r with
    | ins z h t => exact ⟨_, _, _, rfl, M.sub.ins h, z, .inl ⟨_, rfl, t⟩⟩
  · rename_i n
    split at e
    · rename_i c' l q
      cases e
      obtain ⟨ho, rfl, h1, h2⟩ := M.look q r
      obtain ⟨dx, fs, rfl, h3, h4⟩ := rmo_ins h2
      exact ⟨_, dx, fs, rfl, h1, h3, .inr ⟨n, l, rfl, q, h4⟩⟩
    · cases e
  · cases e
theorem fldS_cls {gv : Gv} {f : Nat} {d : D} {Q : VK} {E : XK} (h : PostD g ρ F m H (fldS gv f d m) Q E) : ∃ c, clsS d m = some c ∧ gv.fk c f = true := by
  unfold fldS at h
  unfold clsS
  split at h
  · split at h
    · rename_i z; exact ⟨_, rfl, z⟩
    · exact h.elim
  · split at h
    · rename_i q
      split at h
      · rename_i z; exact ⟨_, by simp only [q], z⟩
      · exact h.elim
    · exact h.elim
  · exact h.elim
/-- o.f -/
theorem e_fld (c : Cok g T p lv X W cd) {a : Expr} {x : Str} {f : Nat} {pos : Pos} {ra : Sl → Mem → R D} (hx : T.fl f = some x) (ha : PE X a (rdE g W ra)) (hb : noSup a = true) :
    PE X (.Attribute a x pos) (rdE g W fun δ m => (ra δ m).bind fun d m => fldS p.gv f d m) := by
  have ex := c.fl f x hx
  subst ex
  refine (pe_fld ha (noSup_ok hb)).imp fun σ H Q h => rdX.bind h fun δ d m ρ F v H' M rs r P => ?_
  obtain ⟨k, e1, e2⟩ := fldS_cls P
  obtain ⟨a', dx, fs, rfl, h1, h2, h3⟩ := ins_look M e1 r
  rcases h3 with ⟨l, rfl, t⟩ | ⟨n, l, rfl, q, t⟩
  · unfold fldS at P
    simp only [if_pos e2] at P
    have := lookF_rp (f := f) c.kf.inj t
    split at P
    · rename_i y ey
      rw [ey] at this
      obtain ⟨v, w, rv⟩ := this
      exact ⟨a', _, dx, fs, v, rfl, h1, by rw [c.K]; exact c.kf.cls _ h2, c.fk _ _ e2, w, P.val M rv⟩
    · exact P.elim
  · unfold fldS at P
    simp only [q, if_pos e2] at P
    have := lookF_rd (f := f) c.kf.inj t
    split at P
    · rename_i y ey
      rw [ey] at this
      obtain ⟨v, w, rv⟩ := this
      exact ⟨a', _, dx, fs, v, rfl, h1, by rw [c.K]; exact c.kf.cls _ h2, c.fk _ _ e2, w, P.val M rv⟩
    · exact P.elim
theorem ins_names (M : MRel g ρ F m H) {d : D} {v : V} {c : Nat} {x : Str} (hx : ∀ j, g.fN j ≠ x) (e : clsS d m = some c) (r : RD g ρ F m.length d v) : ∃ a dx fs, v = .ref a ∧ H a = some (.ins (g.cA c) dx fs) ∧ g.cs c = true ∧ fs.lookup x = none := by
  obtain ⟨a, dx, fs, rfl, h1, h2, h3⟩ := ins_look M e r
  refine ⟨a, dx, fs, rfl, h1, h2, ?_⟩
  rcases h3 with ⟨l, _, t⟩ | ⟨n, l, _, _, t⟩
  · exact names_rp hx t
  · exact names_rd hx t
/-- the tree of a method call on one line -/
theorem meth_tree {o : Expr} {x : Str} {ap pos : Pos} {es : List Expr} {env : Env} (hb : noSup o = true) (hs : es.all noStar = true) (hl : es.length < 30) (hp : (ap.endLine == pos.line) = true) :
    eval (.Call (.Attribute o x ap) es [] pos) env = (do
      let ov ← eval o env
      standAt ap.atName
      let (f, first) ← holding [ov] (getMethod ov x (plainOf o env))
      callWith pos f first (backTo pos (starEach es env)) (backToKw pos (keywordEach [] env))) := by
  have hf : methodCallForm es.length (backTo pos (starEach es env)) (backToKw pos (keywordEach [] env)) = true := by
    have := few_ok (pos := pos) (env := env) hs hl
    unfold methodCallForm
    have e0 : backToKw pos (keywordEach [] env) = [] := rfl
    rw [e0] at this ⊢
    simpa using this
  have e1 : eval (.Call (.Attribute o x ap) es [] pos) env = (do
      let ov ← attributeBase o x env (eval o env)
      standAt ap.atName
      methodCall o x ap pos env ov (es.length + ([] : List Keyword).length) (backTo pos (starEach es env)) (backToKw pos (keywordEach [] env))) := by
    first
      | rfl
      | (rw [eval] <;> rfl)
  rw [e1, noSup_ok hb]
  congr 1
  funext ov
  congr 1
  funext _
  exact mcall_line hf hp
/-- o.m(..) -/
theorem meth_rd (c : Cok g T p lv X W cd) {x : Str} {n : Nat} {ra : Sl → Mem → R D} {rl : Sl → Mem → R (List D)} (hx : T.mn n = some x) {σ : L2.St} {H : Hp} {Q : VK} (h : rdE g W (fun δ m => (ra δ m).bind fun d m => match (clsS d m).bind fun c => p.gv.mt c n with
      | some f => (rl δ m).bind fun xs m => callAt p lv f (d :: xs) m
      | none => .no) σ H Q) : rdE g W ra σ H fun v H1 => ∃ a dx fs cn f fa d δ m ρ F, v = .ref a ∧ H1 a = some (.ins (g.cA cn) dx fs) ∧ g.cs cn = true ∧ fs.lookup x = none ∧ Meth X.K (g.cA cn) x fa ∧ Fnr g p lv X fa f ∧ MRel g ρ F m H1 ∧ RD g ρ F m.length d v ∧ RSl g ρ F m.length δ σ ∧ PostD g ρ F m H1 ((rl δ m).bind fun xs m => callAt p lv f (d :: xs) m) Q (WE W σ) := by
  refine rdX.bind h fun δ d m ρ F v H' M rs r P => ?_
  split at P
  · rename_i f ef
    obtain ⟨cn, e1, e2⟩ := Option.bind_eq_some_iff.mp ef
    obtain ⟨nx, fa, hm, Fn⟩ := c.mt cn n f x e2 hx
    obtain ⟨a', dx, fs, rfl, h1, h2, h3⟩ := ins_names M nx e1 r
    exact ⟨a', dx, fs, cn, f, fa, d, δ, m, ρ, F, rfl, h1, h2, h3, hm, Fn, M, r, rs, P⟩
  · exact P.elim
theorem e_meth (c : Cok g T p lv X W cd) {a e : Expr} {es : List Expr} {x : Str} {n : Nat} {ap pos : Pos} {ra : Sl → Mem → R D} {rl : Sl → Mem → R (List D)} (hx : T.mn n = some x) (ha : PE X a (rdE g W ra)) (hl : PA X (e :: es) (rdA g W rl)) (hs : (e :: es).all noStar = true) (hlen : (e :: es).length < 30) (hb : noSup a = true) (hp : (ap.endLine == pos.line) = true) :
    PE X (.Call (.Attribute a x ap) (e :: es) [] pos) (rdE g W fun δ m => (ra δ m).bind fun d m => match (clsS d m).bind fun c => p.gv.mt c n with
      | some f => (rl δ m).bind fun xs m => callAt p lv f (d :: xs) m
      | none => .no) := by
  refine ⟨fun pins s σ H Q I h => ?_⟩
  refine PySem.W.methodCall_KW (pl := plainOf a X.env) (thn (ha.run pins s σ H _ I (meth_rd c hx h)) fun u s1 ⟨v, H1, I1, rx, a', dx, fs, cn, f, fa, d, δ, m, ρ, F, ev, h1, h2, h3, hm, Fn, M, r, rs, P⟩ => ?_) (meth_tree hb hs hlen hp)
  subst ev
  cases (show u = Value.ref a' from rx)
  refine getmeth_ok I1 h1 (by rw [c.K]; exact c.kf.cls _ h2) hm h3 ?_
  have h2 : rdA g W rl σ H1 fun vs H2 => ∃ ds m ρ F, MRel g ρ F m H2 ∧ RDs g ρ F m.length ds (.ref a' :: vs) ∧ PostD g ρ F m H2 (callAt p lv f ds m) Q (WE W σ) :=
    ⟨δ, m, ρ, F, M, rs, P.bind fun xs m2 vs H2 ρ2 F2 x2 M2 r2 P2 => ⟨d :: xs, m2, ρ2, F2, M2, ⟨r.mono x2, r2⟩, P2⟩⟩
  rw [List.all_cons, Bool.and_eq_true] at hs
  exact PySem.W.callWith_K (first := [.ref a']) (h₀ := X.base) I1.ok.mod.kin hm.kp (thn (hl.run pos pins s1 σ H1 _ I1 h2) fun us s2 ⟨vs, H2, I2, rv, ds, m, ρ, F, M, rd, q⟩ => ⟨I2.kIn, run_own c Fn (us := .ref a' :: us) (vs := .ref a' :: vs) I2 (.cons rfl rv) M rd q⟩) (star_cons hs.1) (plain_any hs.2)
theorem e_meth0 (c : Cok g T p lv X W cd) {a : Expr} {x : Str} {n : Nat} {ap pos : Pos} {ra : Sl → Mem → R D} (hx : T.mn n = some x) (ha : PE X a (rdE g W ra)) (hb : noSup a = true) (hp : (ap.endLine == pos.line) = true) :
    PE X (.Call (.Attribute a x ap) [] [] pos) (rdE g W fun δ m => (ra δ m).bind fun d m => match (clsS d m).bind fun c => p.gv.mt c n with
      | some f => (R.ok [] m).bind fun xs m => callAt p lv f (d :: xs) m
      | none => .no) := by
  refine ⟨fun pins s σ H Q I h => ?_⟩
  refine PySem.W.methodCall_KW (pl := plainOf a X.env) (thn (ha.run pins s σ H _ I (meth_rd c (rl := fun _ m => .ok [] m) hx h)) fun u s1 ⟨v, H1, I1, rx, a', dx, fs, cn, f, fa, d, δ, m, ρ, F, ev, h1, h2, h3, hm, Fn, M, r, rs, P⟩ => ?_) (meth_tree hb rfl (by decide) hp)
  subst ev
  cases (show u = Value.ref a' from rx)
  refine getmeth_ok I1 h1 (by rw [c.K]; exact c.kf.cls _ h2) hm h3 ?_
  exact PySem.W.callWith_K0 (first := [.ref a']) I1.kIn hm.kp (run_own c Fn (us := [.ref a']) (vs := [.ref a']) I1 (.cons rfl .nil) M (ds := [d]) ⟨r, trivial⟩ P)
/-! ### properties -/
theorem e_prop (c : Cok g T p lv X W cd) {a : Expr} {x : Str} {n : Nat} {pos : Pos} {ra : Sl → Mem → R D} (hx : T.mn n = some x) (ha : PE X a (rdE g W ra)) (hb : noSup a = true) :
    PE X (.Attribute a x pos) (rdE g W fun δ m => (ra δ m).bind fun d m => match (clsS d m).bind fun c => p.gv.pr c n with
      | some f => (callAt p lv f [d] m).calm
      | none => .no) := by
  refine ⟨fun pins s σ H Q I h => ?_⟩
  have h' : rdE g W ra σ H fun v H1 => ∃ a dx fs cn f q fa d m ρ F, v = .ref a ∧ H1 a = some (.ins (g.cA cn) dx fs) ∧ g.cs cn = true ∧ PropOf X.K (g.cA cn) x q fa ∧ Fnr g p lv X fa f ∧ MRel g ρ F m H1 ∧ RD g ρ F m.length d v ∧ PostD g ρ F m H1 (callAt p lv f [d] m).calm Q (WE W σ) := by
    refine rdX.bind h fun δ d m ρ F v H' M rs r P => ?_
    split at P
    · rename_i f ef
      obtain ⟨cn, e1, e2⟩ := Option.bind_eq_some_iff.mp ef
      obtain ⟨q, fa, hm, Fn⟩ := c.pr cn n f x e2 hx
      obtain ⟨a', dx, fs, rfl, h1, h2⟩ := ins_at M e1 r
      exact ⟨a', dx, fs, cn, f, q, fa, d, m, ρ, F, rfl, h1, h2, hm, Fn, M, r, P⟩
    · exact P.elim
  refine attr_of (noSup_ok hb) (thn (ha.run pins s σ H _ I h') fun u s1 ⟨v, H1, I1, rx, a', dx, fs, cn, f, q, fa, d, m, ρ, F, ev, h1, h2, hp, Fn, M, r, P⟩ => ?_)
  subst ev
  cases (show u = Value.ref a' from rx)
  obtain ⟨mA, O, _⟩ := ins_get I1.hok h1
  obtain ⟨od, J, _⟩ := O.look
  obtain ⟨rest, hrec⟩ := hp.rec_
  have cl : Cls X.K (g.cA cn) := by rw [c.K]; exact c.kf.cls _ h2
  have hc : (PySem.W.clsIn X.K (g.cA cn)).isSome = true := by
    obtain ⟨cd, hc, _⟩ := PySem.W.any_some cl.hd
    rw [hc]
    rfl
  refine PySem.W.get_bind I1.kIn J (PySem.W.plainGet_of (cl.get x)).1 (PySem.W.findObj_data hc hp.at_ hp.get hp.tak) (PySem.W.plainGet_of (cl.get x)).2 (wpAny_call (PySem.W.prop_get (s := { s1 with toks := s1.toks + 1 }) I1.kIn hrec ?_))
  have I2 : Inv X pins σ H1 { s1 with toks := s1.toks + 1 } := I1.tok _
  have e0 : Env0 X.prog X.w X.K X.mg X.base X.A.in1 X.stack { s1 with toks := s1.toks + 1 } H1 := I2.env0.in1
  have P' : PostD g ρ F m H1 (callAt p lv f [d] m) Q (fun _ _ _ => False) := by
    cases q : callAt p lv f [d] m with
    | ok d m' => rw [q] at P; exact P
    | ex x m' => rw [q] at P; exact P.elim
    | no => rw [q] at P; exact P.elim
  refine codeAny_mono (Fn X.A.in1 X.stack _ H1 [.ref a'] [.ref a'] Q (fun _ _ _ => False) (c.room.in1.mono (by omega)) e0 (.cons rfl .nil) ⟨[d], m, ρ, F, M, ⟨r, trivial⟩, P'⟩) fun r s' hq => ?_
  cases r with
  | error e =>
    obtain ⟨_, _, _, _, _, _, _, _, _, _, _, _, z⟩ := hq
    exact z.elim
  | ok fl =>
    cases fl with
    | ret u =>
      obtain ⟨v, H', I3, rv, q3⟩ := I2.after hq
      show wpAny _ _ (handedOut u) _ _ _
      rw [PySem.W.handedOut_of (handed_of rv)]
      exact wpAny_pure ⟨v, H', I3, rv, q3⟩
    | next => exact False.elim hq
    | brk => exact False.elim hq
    | cont => exact False.elim hq
/-! ### classes as values -/
theorem e_ccon (c : Cok g T p lv X W cd) {y x : Str} {k n : Nat} {np pos : Pos} (hc : T.cn k = some y) (hx : T.cc n = some x) (hv : isGl cd y = true) (hd : nodb y = true) :
    PE X (.Attribute (.Name y np) x pos) (rdE g W fun _ m => match p.gv.cc k n with | some x => .ok (.p x) m | none => .no) := by
  obtain ⟨h1, h2⟩ := c.cn k y hc
  refine (ClX.pe_cval (pe_glob (c.glb hv) h1 (v := .ref (g.cA k)) rfl (nodb_ok hd).1) rfl).imp fun σ H Q ⟨δ, m, ρ, F, M, rs, P⟩ => ?_
  dsimp only at P
  split at P
  · rename_i z ez
    obtain ⟨mc, v, u, q1, q2, q3⟩ := c.cc k n x z ez hx
    exact ⟨_, mc, v, u, rfl, q1, q2, P.val M (q3 F)⟩
  · exact P.elim
theorem run_cmW (c : Cok g T p lv X W cd) {pins : List (Addr × Obj)} {σ : L2.St} {H : Hp} {s : Shared} {C fa q : Addr} {f : Nat} {Q : VK} {us : List Value} {vs : List V} (Fn : Fnr g p lv X fa f) (I : Inv X ((q, PySem.W.methodObj (.ref fa) (.ref C)) :: pins) σ H s)
    (r : Vals vs us) {ds : List D} {m : Mem} {ρ : Rho} {F : Hp} (M : MRel g ρ F m H) (rd : RDs g ρ F m.length ds (.ref C :: vs)) (h : PostD g ρ F m H (callAt p lv f ds m) Q (WE W σ)) : wpAny (model X.prog X.w) X.A (call (.ref q) us) (EP X pins σ Q) X.xe s := by
  have z : wpAny (model X.prog X.w) X.A (call (.ref q) us) (EP X ((q, PySem.W.methodObj (.ref fa) (.ref C)) :: pins) σ Q) X.xe s :=
    wpAny_call (PySem.W.method_call (ClX.pin_at I) (code_own c Fn (us := .ref C :: us) (vs := .ref C :: vs) I (.cons rfl r) M rd h))
  exact thn z fun _ _ y => ClX.unpinE y
/-- C.m(..), a classmethod -/
theorem e_smeth (c : Cok g T p lv X W cd) {y x : Str} {k n : Nat} {np ap pos : Pos} {e : Expr} {es : List Expr} {rl : Sl → Mem → R (List D)} (hc : T.cn k = some y) (hx : T.sn n = some x) (hv : isGl cd y = true) (hd : nodb y = true) (hl : PA X (e :: es) (rdA g W rl)) (hs : (e :: es).all noStar = true) (hlen : (e :: es).length < 30) (hp : (ap.endLine == pos.line) = true) :
    PE X (.Call (.Attribute (.Name y np) x ap) (e :: es) [] pos) (rdE g W fun δ m => match p.gv.sm k n with
      | some (f, true) => (rl δ m).bind fun xs m => callAt p lv f (.p (.cls k) :: xs) m
      | some (f, false) => (rl δ m).bind (callAt p lv f)
      | none => .no) := by
  obtain ⟨h1, h2⟩ := c.cn k y hc
  refine ⟨fun pins s σ H Q I ⟨δ, m, ρ, F, M, rs, P⟩ => ?_⟩
  dsimp only at P
  cases ef : p.gv.sm k n with
  | none => rw [ef] at P; exact P.elim
  | some fb =>
    obtain ⟨f, b⟩ := fb
    obtain ⟨mc, q, fa, q1, Fn, ⟨rfl, q2⟩ | ⟨rfl, q2⟩⟩ := c.sm k n f b x ef hx
    case inr =>
      rw [ef] at P
      dsimp only at P
      refine PySem.W.methodCall_KW (pl := plainOf (.Name y np) X.env) (thn ((pe_glob (c.glb hv) h1 (v := .ref (g.cA k)) rfl (nodb_ok hd).1).run pins s σ H (fun v H1 => v = .ref (g.cA k) ∧ H1 = H) I ⟨rfl, rfl⟩) fun u s1 ⟨v, H1, I1, rx, e1, e2⟩ => ?_) (meth_tree rfl hs hlen hp)
      subst e1 e2
      cases (show u = Value.ref (g.cA k) from rx)
      obtain ⟨rest, hr⟩ := q2.rc
      refine PySem.W.method_cls I1.kIn q1.ga (PySem.W.cls_bind I1.kIn q1.rd q2.at_ (wpAny_call (PySem.W.sm_get (s := { s1 with toks := s1.toks + 1 }) I1.kIn hr (PySem.W.handed_on rfl ?_))))
      have I2 : Inv X pins σ H1 { s1 with toks := s1.toks + 1 } := I1.tok _
      rw [List.all_cons, Bool.and_eq_true] at hs
      have h3 : rdA g W rl σ H1 fun vs H2 => ∃ ds m ρ F, MRel g ρ F m H2 ∧ RDs g ρ F m.length ds vs ∧ PostD g ρ F m H2 (callAt p lv f ds m) Q (WE W σ) :=
        ⟨δ, m, ρ, F, M, rs, P.bind fun xs m2 vs H2 ρ2 F2 x2 M2 r2 P2 => ⟨xs, m2, ρ2, F2, M2, r2, P2⟩⟩
      exact PySem.W.callWith_K (h₀ := X.base) I2.ok.mod.kin q2.kp (thn (hl.run pos pins _ σ H1 _ I2 h3) fun us s3 ⟨vs, H2, I3, rv, ds, m, ρ, F, M, rd, qq⟩ => (⟨I3.kIn, run_own c Fn I3 rv M rd qq⟩ : X.K.In s3.heap ∧ wpAny (model X.prog X.w) X.A (call (.ref fa) us) (EP X pins σ Q) X.xe s3)) (star_cons hs.1) (plain_any hs.2)
    rw [ef] at P
    dsimp only at P
    refine PySem.W.methodCall_KW (pl := plainOf (.Name y np) X.env) (thn ((pe_glob (c.glb hv) h1 (v := .ref (g.cA k)) rfl (nodb_ok hd).1).run pins s σ H (fun v H1 => v = .ref (g.cA k) ∧ H1 = H) I ⟨rfl, rfl⟩) fun u s1 ⟨v, H1, I1, rx, e1, e2⟩ => ?_) (meth_tree rfl hs hlen hp)
    subst e1 e2
    cases (show u = Value.ref (g.cA k) from rx)
    refine ClX.getmethcm_ok I1 q1 q2 fun s2 I2 => ?_
    rw [List.all_cons, Bool.and_eq_true] at hs
    have h3 : rdA g W rl σ H1 fun vs H2 => ∃ ds m ρ F, MRel g ρ F m H2 ∧ RDs g ρ F m.length ds (.ref (g.cA k) :: vs) ∧ PostD g ρ F m H2 (callAt p lv f ds m) Q (WE W σ) :=
      ⟨δ, m, ρ, F, M, rs, P.bind fun xs m2 vs H2 ρ2 F2 x2 M2 r2 P2 => ⟨.p (.cls k) :: xs, m2, ρ2, F2, M2, ⟨RP.cls h2, r2⟩, P2⟩⟩
    refine ClX.callwith_cm I2 (ClX.base_none I1 (Nat.le_refl _)) q2.fi (thn (hl.run pos _ s2 σ H1 _ I2 h3) fun us s3 ⟨vs, H2, I3, rv, ds, m, ρ, F, M, rd, qq⟩ => ⟨⟨ClX.pin_at I3, I3.kIn⟩, ?_⟩) (star_cons hs.1) (plain_any hs.2)
    exact run_cmW c Fn I3 rv M rd qq
/-- the tree of a method call on one line, its arguments given by name -/
theorem meth_treeK {o : Expr} {x : Str} {ap pos : Pos} {kws : List Keyword} {ks : List Str} {env : Env} (hb : noSup o = true) (hs : kwNames kws = some ks) (hl : kws.length < 29) (hp : (ap.endLine == pos.line) = true) :
    eval (.Call (.Attribute o x ap) [] kws pos) env = (do
      let ov ← eval o env
      standAt ap.atName
      let (f, first) ← holding [ov] (getMethod ov x (plainOf o env))
      callWith pos f first (backTo pos (starEach [] env)) (backToKw pos (keywordEach kws env))) := by
  have hf : methodCallForm kws.length (backTo pos (starEach [] env)) (backToKw pos (keywordEach kws env)) = true := by
    unfold methodCallForm
    rw [(kw_ok (pos := pos) (env := env) hs).1]
    have e0 : backTo pos (starEach [] env) = [] := rfl
    rw [e0]
    show (true && true && decide (_ < 30)) = true
    rw [Bool.and_true, Bool.true_and]
    refine decide_eq_true ?_
    split <;> omega
  have e1 : eval (.Call (.Attribute o x ap) [] kws pos) env = (do
      let ov ← attributeBase o x env (eval o env)
      standAt ap.atName
      methodCall o x ap pos env ov (([] : List Expr).length + kws.length) (backTo pos (starEach [] env)) (backToKw pos (keywordEach kws env))) := by
    first
      | rfl
      | (rw [eval] <;> rfl)
  rw [e1, noSup_ok hb]
  congr 1
  funext ov
  congr 1
  funext _
  rw [List.length_nil, Nat.zero_add]
  exact mcall_line hf hp
/-- C.m(k=..), a classmethod, its arguments given by name -/
theorem e_smethK (c : Cok g T p lv X W cd) {y x : Str} {f k n : Nat} {np ap pos : Pos} {kws : List Keyword} {ks : List Str} {pm : List Nat} {rk : Sl → Mem → R (List D)} (hc : T.cn k = some y) (hx : T.sn n = some x) (hpm : T.kw f 1 ks = some pm) (hv : isGl cd y = true) (hd : nodb y = true)
    (hk : PK X kws (rdA g W rk)) (hks : kwNames kws = some ks) (h2 : ∀ δ m xs m', rk δ m = .ok xs m' → xs.length = ks.length) (hlen : kws.length < 29) (hp : (ap.endLine == pos.line) = true) :
    PE X (.Call (.Attribute (.Name y np) x ap) [] kws pos) (rdE g W fun δ m => match p.gv.sm k n with
      | some (f', true) => if f' = f then (rk δ m).bind fun zs m => callAt p lv f (permL pm [.p (.cls k)] zs) m else .no
      | _ => .no) := by
  obtain ⟨h1, h3⟩ := c.cn k y hc
  refine ⟨fun pins s σ H Q I ⟨δ, m, ρ, F, M, rs, P⟩ => ?_⟩
  dsimp only at P
  split at P
  · rename_i f' ef
    split at P
    · rename_i hf
      subst hf
      have h' : rdA g W rk σ H fun zs H2 => zs.length = ks.length ∧ ∃ es m ρ F, MRel g ρ F m H2 ∧ RDs g ρ F m.length es zs ∧ PostD g ρ F m H2 (callAt p lv f' (permL pm [.p (.cls k)] es) m) Q (WE W σ) := by
        cases e2 : rk δ m with
        | no => rw [e2] at P; exact P.elim
        | ex z m2 => rw [e2] at P; exact ⟨δ, m, ρ, F, M, rs, by rw [e2]; exact P⟩
        | ok zs m2 =>
          rw [e2] at P
          refine ⟨δ, m, ρ, F, M, rs, ?_⟩
          rw [e2]
          intro us H2 ρ2 F2 x2 M2 r2
          exact ⟨by rw [← r2.length]; exact h2 _ _ _ _ e2, zs, m2, ρ2, F2, M2, r2, Post.on x2 P⟩
      obtain ⟨mc, q, fa0, q1, _, ⟨_, q2⟩ | ⟨z, _⟩⟩ := c.sm k n f' true x ef hx
      case inr => cases z
      refine PySem.W.methodCall_KW (pl := plainOf (.Name y np) X.env) (thn ((pe_glob (c.glb hv) h1 (v := .ref (g.cA k)) rfl (nodb_ok hd).1).run pins s σ H (fun v H1 => v = .ref (g.cA k) ∧ H1 = H) I ⟨rfl, rfl⟩) fun u s1 ⟨v, H1, I1, rx, e1, e2⟩ => ?_) (meth_treeK rfl hks hlen hp)
      subst e1 e2
      cases (show u = Value.ref (g.cA k) from rx)
      obtain ⟨k1, k2, k3⟩ := kw_ok (pos := pos) (env := X.env) hks
      have hpl : ((backTo pos (starEach [] X.env)).any (·.1) || (backToKw pos (keywordEach kws X.env)).any (·.1.isNone)) = false := by rw [k3, Bool.or_false]; rfl
      cases ed : p.fd f' with
      | none =>
        have no : ∀ l m, callAt p lv f' l m = .no := fun l m => by
          cases lv with
          | zero => rfl
          | succ j =>
            show (match p.fd f' with | some d => runD (callAt p j) p.gv d l m | none => .no) = _
            rw [ed]
        refine ClX.getmethcm_ok I1 q1 q2 fun s2 I2 => ?_
        refine PySem.W.callWith_of hpl (PySem.W.keeps_M q2.fi) (evalArgs_kw2_nil k1 (thn (hk.run pos _ s2 σ H1 _ I2 h') fun ws s3 ⟨zs, H2, I3, rz, l2, es, m, ρ, F, M, re, qq⟩ => ⟨⟨ClX.pin_at I3, I3.kIn⟩, ?_⟩))
        rw [no] at qq
        exact qq.elim
      | some d =>
        obtain ⟨mc, q, fa, fd, ps, q1, q2, Fn, q3, q4, q5⟩ := c.smK k n f' x d ks pm ef hx ed hpm
        refine ClX.getmethcm_ok I1 q1 q2 fun s2 I2 => ?_
        refine PySem.W.callWith_of hpl (PySem.W.keeps_M q2.fi) (evalArgs_kw2_nil k1 (thn (hk.run pos _ s2 σ H1 _ I2 h') fun ws s3 ⟨zs, H2, I3, rz, l2, es, m, ρ, F, M, re, qq⟩ => ⟨⟨ClX.pin_at I3, I3.kIn⟩, ?_⟩))
        rw [k2]
        have z : ∀ q0, Inv X ((q0, PySem.W.methodObj (.ref fa) (.ref (g.cA k))) :: pins) σ H2 s3 → wpAny (model X.prog X.w) X.A (call (.ref q0) [] (ks.zip ws)) (EP X ((q0, PySem.W.methodObj (.ref fa) (.ref (g.cA k))) :: pins) σ Q) X.xe s3 := fun q0 J =>
          wpAny_call (PySem.W.method_call (ClX.pin_at J) (code_kw c (us := [.ref (g.cA k)]) (vs := [.ref (g.cA k)]) Fn q3 q4 q5 J (.cons rfl .nil) rz rfl l2 M (ds := [.p (.cls k)]) ⟨RP.cls h3, trivial⟩ re qq))
        exact thn (z _ I3) fun _ _ y => ClX.unpinE y
    · exact P.elim
  · exact P.elim
/-! ### new instances -/
/-- the objects of a new instance -/
theorem step_make {ρ : Rho} {F H : Hp} {m : Mem} (M : MRel g ρ F m H) {c : Nat} {x dx : Addr} (hc : g.cs c = true) (hx : H x = none) (hd : H dx = none) (ne : dx ≠ x) :
    ∃ ρ', Ext ρ F m H ρ' F (m.new (.ins c [])) (upd (upd H dx (.own x)) x (.ins (g.cA c) dx [])) ∧ MRel g ρ' F (m.new (.ins c [])) (upd (upd H dx (.own x)) x (.ins (g.cA c) dx [])) ∧ RD g ρ' F (m.new (.ins c [])).length (.ref m.length) (.ref x) := by
  have M1 : MRel g ρ F m (upd H dx (.own x)) := by
    refine ⟨fun a o e => ?_, fun n o e => ?_, M.inj⟩
    · have h := M.sub a o e
      have na : a ≠ dx := fun z => by
        subst z
        rcases h with h | ⟨_, _, h⟩ <;> (rw [hd] at h; cases h)
      rw [upd_ne na]; exact h
    · obtain ⟨f, ho, h1, h2⟩ := M.mem n o e
      have na : ρ n ≠ dx := fun z => by rw [z, hd] at h1; cases h1
      exact ⟨f, ho, by rw [upd_ne na]; exact h1, h2⟩
  have E1 : Ext ρ F m H ρ F m (upd H dx (.own x)) :=
    ⟨fun _ _ h => h, Nat.le_refl _, fun _ _ => rfl, fun _ h => h, fun n h l => absurd l.lt (Nat.not_lt.mpr h), fun a o h _ => by rw [upd_ne (ne_of_none h hd)]; exact h, fun a o h => ⟨o, by rw [upd_ne (ne_of_none h hd)]; exact h⟩, fun a o h => .inl h⟩
  have hx1 : upd H dx (.own x) x = none := by rw [upd_ne (Ne.symm ne)]; exact hx
  obtain ⟨x2, M2, r2⟩ := step_new (o := .ins c []) (ho := .ins (g.cA c) dx []) M1 hx1 ⟨⟨Nat.zero_le _, rfl, hc⟩, trivial⟩
  exact ⟨_, E1.trans x2, M2, r2⟩
theorem run_makeW (c : Cok g T p lv X W cd) {k f : Nat} {fa : Addr} {pins : List (Addr × Obj)} {σ : L2.St} {H : Hp} {s : Shared} {Q : VK} {us : List Value} {vs : List V} (hk : g.cs k = true) (Mk_ : Mk X.K (g.cA k) fa) (Fn : Fnr g p lv X fa f) (I : Inv X pins σ H s) (r : Vals vs us) {xs : List D} {m : Mem} {ρ : Rho} {F : Hp} (M : MRel g ρ F m H) (rd : RDs g ρ F m.length xs vs)
    (h : PostD g ρ F m H (makeS (callAt p lv) k f xs m) Q (WE W σ)) :
    wpAny (model X.prog X.w) X.A (call (.ref (g.cA k)) us) (EP X pins σ Q) X.xe s := by
  have I2 := Inv.made (C := g.cA k) I
  obtain ⟨ρ1, x1, M1, r1⟩ := step_make M (x := s.heap.objs.size + 1) (dx := s.heap.objs.size) hk (I.hok.fresh (Nat.le_succ _)) (I.hok.fresh (Nat.le_refl _)) (Nat.ne_of_lt (Nat.lt_succ_self _))
  have rd1 : RDs g ρ1 F (m.new (.ins k [])).length (.ref m.length :: xs) (.ref (s.heap.objs.size + 1) :: vs) := ⟨r1, RDs.mono x1 rd⟩
  have h1 : PostD g ρ1 F (m.new (.ins k [])) (upd (upd H s.heap.objs.size (.own (s.heap.objs.size + 1))) (s.heap.objs.size + 1) (.ins (g.cA k) s.heap.objs.size [])) (callAt p lv f (.ref m.length :: xs) (m.new (.ins k []))) (fun v H2 => v = .non ∧ Q (.ref (s.heap.objs.size + 1)) H2) (WE W σ) := by
    refine (Post.on x1 h).bind fun d m' v H' ρ' F' x2 M2 rr P => ?_
    split at P
    · cases rr
      exact ⟨rfl, P.val M2 (r1.mono x2)⟩
    · exact P.elim
  have r2 : Vals (V.ref (s.heap.objs.size + 1) :: vs) (Value.ref (s.heap.objs.size + 1) :: us) := .cons rfl r
  refine wpAny_call (make_map (f := fa) I.kIn Mk_.makes Mk_.init (beq_iff_eq.mp Mk_.fn) (codeAny_mono (Fn _ X.stack _ _ (Value.ref (s.heap.objs.size + 1) :: us) _ _ (WE W σ) ((c.room.mono (Nat.le_refl _) : Room (3 * lv + 2 + 1 + 1) X.A).mono (by omega : 3 * lv + 2 + 1 ≤ _) |>.make (g.cA k) us [])
    (I2.env0.make (g.cA k) us []) r2 ⟨_, _, ρ1, F, M1, rd1, h1⟩) fun r s' hq' => ?_))
  cases r with
  | error e => exact c.tk e s' (XE.of_call I2 (fun _ _ _ h => h) hq')
  | ok fl =>
    cases fl with
    | ret u =>
      obtain ⟨v, H', I3, rv, ev, q3⟩ := I2.after hq'
      subst ev
      exact ⟨rv, ⟨V.ref (s.heap.objs.size + 1), H', I3, rfl, q3⟩⟩
    | next => exact False.elim hq'
    | brk => exact False.elim hq'
    | cont => exact False.elim hq'
theorem make_args {k f : Nat} {rl : Sl → Mem → R (List D)} {σ : L2.St} {H : Hp} {Q : VK} (h : rdE g W (fun δ m => (rl δ m).bind fun xs m => makeS (callAt p lv) k f xs m) σ H Q) :
    rdA g W rl σ H fun vs H1 => ∃ xs m ρ F, MRel g ρ F m H1 ∧ RDs g ρ F m.length xs vs ∧ PostD g ρ F m H1 (makeS (callAt p lv) k f xs m) Q (WE W σ) :=
  rdX.bind h fun δ xs m ρ F vs H' M rs r P => ⟨xs, m, ρ, F, M, r, P⟩
/-- no star at the head; without arguments nothing is read -/
def Hn (rl : Sl → Mem → R (List D)) (es : List Expr) : Prop := match es with
  | [] => rl = fun _ m => .ok [] m
  | e :: _ => noStar e = true
/-- C(..): the call, the class at hand -/
theorem call_make (c : Cok g T p lv X W cd) {k f : Nat} {pos : Pos} {es : List Expr} {rl : Sl → Mem → R (List D)} (hl : PA X es (rdA g W rl)) (ef : p.gv.ini k = some f) (hn : Hn rl es) {pins : List (Addr × Obj)} {s : Shared} {σ : L2.St} {H : Hp} {Q : VK} (I : Inv X pins σ H s)
    (h : rdE g W (fun δ m => (rl δ m).bind fun xs m => makeS (callAt p lv) k f xs m) σ H Q) : wpAny (model X.prog X.w) X.A (callWith pos (.ref (g.cA k)) [] (backTo pos (starEach es X.env)) (backToKw pos (keywordEach [] X.env))) (EP X pins σ Q) X.xe s := by
  obtain ⟨hk, fa, Mk_, Fn⟩ := c.ini k f ef
  cases es with
  | nil =>
    have hn : rl = fun _ m => .ok [] m := hn
    subst hn
    obtain ⟨δ, m, ρ, F, M, rs, P⟩ := h
    exact PySem.W.callWith_K0 I.kIn Mk_.kp (run_makeW c (us := []) (vs := []) hk Mk_ Fn I .nil M (xs := []) trivial P)
  | cons e es =>
    have kk := thn (hl.run pos pins s σ H _ I (make_args h)) fun us s1 ⟨vs, H1, I1, r, xs, m, ρ, F, M, rd, q⟩ => (⟨I1.kIn, run_makeW c hk Mk_ Fn I1 r M rd q⟩ : X.K.In s1.heap ∧ wpAny (model X.prog X.w) X.A (call (.ref (g.cA k)) us) (EP X pins σ Q) X.xe s1)
    cases q : es.all noStar with
    | true => exact PySem.W.callWith_K (h₀ := X.base) I.ok.mod.kin Mk_.kp kk (star_cons hn) (plain_any q)
    | false => exact PySem.W.callWith_S2 (h₀ := X.base) (first := []) I.ok.mod.kin Mk_.kp kk (star_cons hn) (star_any' q)
theorem e_make (c : Cok g T p lv X W cd) {k : Nat} {y : Str} {np pos : Pos} {es : List Expr} {rl : Sl → Mem → R (List D)} (hc : T.cn k = some y) (hv : isGl cd y = true) (hd : nodb y = true) (hl : PA X es (rdA g W rl)) (hn : Hn rl es) :
    PE X (.Call (.Name y np) es [] pos) (rdE g W fun δ m => match p.gv.ini k with
      | some f => (rl δ m).bind fun xs m => makeS (callAt p lv) k f xs m
      | none => .no) := by
  obtain ⟨h1, h2⟩ := c.cn k y hc
  refine ⟨fun pins s σ H Q I h => ?_⟩
  cases ef : p.gv.ini k with
  | none =>
    obtain ⟨δ, m, ρ, F, M, rs, P⟩ := h
    rw [ef] at P
    exact P.elim
  | some f =>
    rw [ef] at h
    exact wpAny_Call_Name_kw (ld_glob I (c.glb hv) h1 (call_make c hl ef hn I h) (nodb_ok hd).1)
/-- cls(..), cls a local that holds the class -/
theorem e_makeV (c : Cok g T p lv X W cd) {i k : Nat} {y : Str} {np pos : Pos} {es : List Expr} {rl : Sl → Mem → R (List D)} (hi : cd.N[i]? = some y) (hv : isVis cd y = true) (hd : nodb y = true) (hl : PA X es (rdA g W rl)) (hn : Hn rl es) :
    PE X (.Call (.Name y np) es [] pos) (rdE g W fun δ m => match δ[i]?, p.gv.ini k with
      | some (some (.p (.cls c'))), some f => if c' = k then (rl δ m).bind fun xs m => makeS (callAt p lv) k f xs m else .no
      | _, _ => .no) := by
  refine ⟨fun pins s σ H Q I ⟨δ, m, ρ, F, M, rs, P⟩ => ?_⟩
  dsimp only at P
  split at P
  · rename_i c' f e1 ef
    split at P
    · rename_i e2
      subst e2
      obtain ⟨v, q1, q2⟩ := rs.get i _ e1
      cases q2 with
      | cls hk =>
        refine wpAny_Call_Name_kw (thn ((pe_var (i := i) (pos := np) (by rw [c.N]; exact hi) (c.vis hv) (nodb_ok hd).1 (nodb_ok hd).2).run pins s σ H (fun v H1 => v = .ref (g.cA c') ∧ H1 = H) I ⟨_, q1, rfl, rfl⟩) fun u s1 ⟨v, H1, I1, rx, e3, e4⟩ => ?_)
        subst e3 e4
        cases (show u = Value.ref (g.cA c') from rx)
        exact call_make c hl ef hn I1 ⟨δ, m, ρ, F, M, rs, P⟩
    · exact P.elim
  · exact P.elim
/-! ### texts -/
theorem e_fmt {a : Expr} {pos : Pos} {ra : Sl → Mem → R D} (ha : PE X a (rdE g W ra)) : PE X (.FormattedValue a (-1) none pos) (rdE g W fun δ m => (ra δ m).bind fmtS) := by
  refine (pe_fmt ha).imp fun σ H Q h => rdX.bind h fun δ d m ρ F v H' M rs r P => ?_
  unfold fmtS at P
  split at P
  · cases r with | str y hz => exact .inl ⟨_, rfl, hz, P.val M (RP.str _ hz)⟩
  · split at P
    · rename_i hz
      cases r
      exact .inr ⟨_, rfl, hz, P.val M (RP.str _ (int_text_fits hz))⟩
    · exact P.elim
  · exact P.elim
/-- one part of an f-text ahead of the others -/
theorem js_rd {ra : Sl → Mem → R D} {ts : List TE} {rj : Str → Sl → Mem → R D} (hr : ∀ acc, acc.length ≤ sizeLine → ∀ σ H Q, rdE g W (rj acc) σ H (fun x H1 => ∃ out, x = .str out ∧ Q out H1) → tJs ts acc σ H Q) {acc : Str} {σ : L2.St} {H : Hp} {Q : Str → Hp → Prop}
    (h : rdE g W (fun δ m => (ra δ m).bind fun x m => match addS acc x with | some acc => rj acc δ m | none => .no) σ H (fun x H1 => ∃ out, x = .str out ∧ Q out H1)) : tJs (rdE g W ra :: ts) acc σ H Q := by
  refine rdX.bind h fun δ d m ρ F v H' M rs r P => ?_
  unfold addS at P
  split at P
  · rename_i acc' ea
    split at ea
    · split at ea
      · rename_i hz
        cases ea
        cases r with | str y _ => exact ⟨_, rfl, hz, hr _ hz _ _ _ ⟨δ, m, ρ, F, M, rs, P⟩⟩
      · cases ea
    · cases ea
  · exact P.elim
theorem e_rev {a : Expr} {k : Nat} {p1 p2 p3 pos : Pos} {ra : Sl → Mem → R D} (ha : PE X a (rdE g W ra)) : PE X (.Subscript a (.Slice none none (some (.UnaryOp .USub (.Constant (.int 1) k p1) p2)) p3) pos) (rdE g W fun δ m => (ra δ m).bind revS) := by
  refine (pe_revL ha).imp fun σ H Q h => rdX.bind h fun δ d m ρ F v H' M rs r P => ?_
  unfold revS at P
  split at P
  · cases r with
    | lst hz h1 t => exact ⟨_, _, rfl, SqL.of (M.sub.lst h1), fun q hq => P.newLst (by rw [List.length_reverse]; exact hz) M (RPs.rev t) hq⟩
  · exact P.elim
end
end Dn

/-! Dn, part YD: dict comprehensions. -/
namespace Dn
open PySem PySem.Spec PyProof.Rows L2
section
variable {g : Gn} {W : WX} {X : Cx} {T' : Tb} {p : Pg} {lv : Nat} {cd : Cd} {F : Hp}
theorem RPk.len : ∀ {l : List (Dn.P × Dn.P)} {kvs : List (Key × V)}, RPk g F l kvs → l.length = kvs.length
  | _, _, .nil => rfl
  | _, _, .cons _ _ _ t => congrArg Nat.succ (RPk.len t)
theorem RPk.any {κ : Key} : ∀ {l : List (Dn.P × Dn.P)} {kvs : List (Key × V)}, RPk g F l kvs → (l.any fun kv => decide (keyP kv.1 = some κ)) = kvs.any fun kv => decide (kv.1 = κ)
  | _, _, .nil => rfl
  | _, _, @RPk.cons _ _ k x κ' v l vs e z r t => by
    rw [List.any_cons, List.any_cons, RPk.any t, e]
    congr 1
    by_cases h : κ' = κ <;> simp [h]
theorem RPk.map {κ : Key} {y : Dn.P} {u : V} (hy : RP g F y u) : ∀ {l : List (Dn.P × Dn.P)} {kvs : List (Key × V)}, RPk g F l kvs → RPk g F (l.map fun kv => if keyP kv.1 = some κ then (kv.1, y) else kv) (kvs.map fun kv => if kv.1 = κ then (kv.1, u) else kv)
  | _, _, .nil => .nil
  | _, _, @RPk.cons _ _ k x κ' v l vs e z r t => by
    rw [List.map_cons, List.map_cons]
    by_cases h : κ' = κ
    · subst h
      simp only [e, if_true]
      exact .cons e z hy (RPk.map hy t)
    · have : ¬ keyP k = some κ := fun q => h (by rw [e] at q; exact Option.some.inj q)
      rw [if_neg this, if_neg h]
      exact .cons e z r (RPk.map hy t)
theorem RPk.snoc {κ : Key} {k y : Dn.P} {u : V} (e : keyP k = some κ) (z : kOk k) (hy : RP g F y u) : ∀ {l : List (Dn.P × Dn.P)} {kvs : List (Key × V)}, RPk g F l kvs → RPk g F (l ++ [(k, y)]) (kvs ++ [(κ, u)])
  | _, _, .nil => .cons e z hy .nil
  | _, _, .cons e' z' r t => .cons e' z' r (RPk.snoc e z hy t)
theorem key_kOk {x : Dn.P} {v : V} (r : RP g F x v) {κ : Key} (e : keyP x = some κ) : kOk x := by
  cases r <;> first | exact True.intro | assumption | cases e
theorem putP_rel {l l' : List (Dn.P × Dn.P)} {kvs : List (Key × V)} {k y : Dn.P} {u w : V} (h : putP l false k y = some l') (r : RPk g F l kvs) (rk : RP g F k w) (ry : RP g F y u) : ∃ κ, w = kV κ ∧ RPk g F l' (putK kvs κ u) ∧ l'.length ≤ l.length + 1 := by
  unfold putP at h
  simp only at h
  cases e : keyP k with
  | none => rw [e] at h; cases h
  | some κ =>
    rw [e] at h
    simp only [Option.some.injEq] at h
    subst h
    refine ⟨κ, key_v e rk, ?_, ?_⟩
    · unfold putK
      rw [RPk.any r]
      split
      · exact RPk.map ry r
      · exact RPk.snoc e (key_kOk rk e) ry r
    · split
      · rw [List.length_map]; omega
      · rw [List.length_append, List.length_singleton]; omega
theorem rpk_up {F F1 : Hp} (s : Dn.Sub F F1) {l : List (Dn.P × Dn.P)} {kvs : List (Key × V)} (h : RPk g F l kvs) : RPk g F1 l kvs := RPk.up s h
/-- one turn's reading -/
def turnK (rc : Sl → Mem → R Bool) (rk rv : Sl → Mem → R D) (t : Dn.T) (δ : Sl) : D → Mem → R (Option (Dn.P × Dn.P)) := fun x m => (oR (asgT t x m δ) m).bind fun δ' m => (rc δ' m).bind fun k m => if k then (rk δ' m).bind fun y m => (rv δ' m).bind fun z m => pairS y z m else .ok none m
theorem upd_upd {H : Hp} {a : Addr} {o u : HO} : upd (upd H a o) a u = upd H a u := by
  funext b
  unfold upd
  split <;> rfl
theorem step_alien0 {ho : HO} {a : Addr} (M : MRel g ρ F m H) (ha : H a = none) : Ext ρ F m H ρ F m (upd H a ho) ∧ MRel g ρ F m (upd H a ho) := by
  have fa := M.free ha
  refine ⟨⟨fun _ _ h => h, Nat.le_refl _, fun _ _ => rfl, fun _ h => h, fun k h l => absurd l.lt (Nat.not_lt.mpr h), fun b u h _ => by rw [upd_ne (ne_of_none h ha)]; exact h, fun b u h => ⟨u, by rw [upd_ne (ne_of_none h ha)]; exact h⟩, fun _ _ h => .inl h⟩, ⟨fun b u h => ?_, fun k u e => ?_, M.inj⟩⟩
  · rw [upd_ne (ne_of_none h fa)]; exact M.sub b u h
  · obtain ⟨f, ho', h1, h2⟩ := M.mem k u e
    exact ⟨f, ho', by rw [upd_ne (ne_of_none h1 ha)]; exact h1, h2⟩
theorem upd_hid {L : Addr} {H : Hp} {o : HO} : upd (hide L H) L o = upd H L o := by
  funext a
  unfold upd
  split
  · rfl
  · rename_i z; exact hide_ne z
/-- puts as the heap does them -/
theorem putsP_rel : ∀ {l : List (Dn.P × Dn.P)} {acc out : List (Dn.P × Dn.P)} {kvs av : List (Key × V)}, putsP acc l = some out → RPk g F acc av → RPk g F l kvs → RPk g F out (mergeK av kvs)
  | [], acc, out, _, av, e, ra, .nil => by cases e; exact ra
  | kv :: l, acc, out, _, av, e, ra, .cons (κ := κ) ek ok rx t => by
    unfold putsP at e
    split at e
    · rename_i acc' ep
      have rk : RP g F kv.1 (kV κ) := by
        cases h : kv.1 with
        | int i => rw [h] at ek; cases ek; exact .int i
        | str z => rw [h] at ek ok; cases ek; exact .str z ok
        | _ => rw [h] at ek; cases ek
      obtain ⟨κ', hk, rp, _⟩ := putP_rel ep ra rk rx
      have : κ' = κ := by
        have e1 : kV κ = kV κ' := hk
        cases κ <;> cases κ' <;> first | (cases e1; rfl) | cases e1
      subst this
      have := putsP_rel e rp t
      exact this
    · cases e
theorem e_dcm (c : Cok g T' p lv X W cd) {own : List (Str × Nat)} {t : Dn.T} {rt : Sl → Mem → R Its} {rc : Sl → Mem → R Bool} {rk rv : Sl → Mem → R D}
    (ho : ∀ i ∈ t.ixs, i ∈ own.map (·.2)) {σ : L2.St} {H : Hp} {Q : VK}
    (h : rdE g W (fun δ m => (rt δ m).bind fun its m => dcRun false (turnK rc rk rv t (wipeD δ (own.map (·.2)))) its its.l [] m) σ H Q) :
    tDc (rdIt g W rt) (rdG g t) (rdT g W0 rc) (rdE g W0 rk) (rdE g W0 rv) (own.map (·.2)) σ H (fun v H1 => Frzb (Q v) H1) := by
  refine rdX.bind h fun δ its m ρ F J H1 M rs RJ0 P => fun L hL => ?_
  obtain ⟨hline, RJ⟩ := RJ0
  generalize hf : turnK rc rk rv t (wipeD δ (own.map (·.2))) = f at P
  generalize hvs : own.map (·.2) = vs at *
  let Iv : Nat → Hp → Prop := fun i Hc => ∃ (ad : List (Dn.P × Dn.P)) (av : List (Key × V)) (m' : Mem) (ρ' : Rho) (F' : Hp), Ext ρ F m H1 ρ' F' m' (hide L Hc) ∧ MRel g ρ' F' m' (hide L Hc) ∧ Hc L = some (.dK av) ∧ RPk g F' ad av ∧ ad.length ≤ i ∧
    PostD g ρ' F' m' (hide L Hc) (dcRun false f its (its.l.drop i) ad m') Q (WE W σ)
  have iv0 : Iv 0 (upd H1 L (.dK [])) := by
    refine ⟨[], [], m, ρ, F, ?_, ?_, upd_same, .nil, Nat.le_refl _, ?_⟩
    · rw [hide_upd, hide_none hL]; exact Ext.refl
    · rw [hide_upd, hide_none hL]; exact M
    · rw [hide_upd, hide_none hL]; exact P
  refine ⟨fun i n Hc => n = its.l.length - i ∧ i ≤ its.l.length ∧ Iv i Hc, ⟨_, rfl, Nat.zero_le _, iv0⟩, ?_⟩
  rintro i n Hc ⟨rfl, hi', ad, av, m', ρ', F', x1, M1, hc, rd, hal, P1⟩
  have on : On ρ F m.length ρ' F' m' := On.refl.ext x1
  by_cases hlt : i < its.l.length
  · have hdrop : its.l.drop i = its.l[i] :: its.l.drop (i + 1) := List.drop_eq_getElem_cons hlt
    rw [hdrop] at P1
    unfold dcRun at P1
    split at P1
    · rename_i held
      obtain ⟨go, yl⟩ := (RJ ρ' F' m' Hc on M1.unhide held i).1 its.l[i] (List.getElem?_eq_getElem hlt)
      refine .inr ⟨go, Iv (i + 1), fun H' q => ⟨_, by omega, rfl, hlt, q⟩, fun xv H' y => ?_⟩
      obtain ⟨F2, x2, M2, r2⟩ := yl xv H' y
      obtain ⟨M2h, hc2⟩ := M1.hidden hc x2 M2
      have P2 := Post.on (x2.hide (L := L)) P1
      obtain ⟨o, m3, eo, P3⟩ := calm_post P2
      rw [← hf] at eo
      unfold turnK at eo
      cases ea : asgT t its.l[i] m' (wipeD δ vs) with
      | none => rw [ea] at eo; cases eo
      | some δ' =>
        rw [ea] at eo
        have eo : ((rc δ' m').bind fun k m => if k then (rk δ' m).bind fun y m => (rv δ' m).bind fun z m => pairS y z m else .ok none m) = .ok o m3 := eo
        have rs2 : RSl g ρ' F2 m'.length (wipeD δ vs) (wipe σ vs) := RSl.wipe ((rs.mono x1).mono (x2.hide (L := L))) vs
        refine ⟨its.l[i], wipeD δ vs, m', ρ', F2, δ', M2, r2, rs2, ea, fun σ2 rs3 same => ⟨wipe_same ho same, ?_⟩⟩
        cases ec : rc δ' m' with
        | no => rw [ec] at eo; cases eo
        | ex _ _ => rw [ec] at eo; cases eo
        | ok k m4 =>
          rw [ec] at eo
          have eo : (if k then (rk δ' m4).bind fun y m => (rv δ' m).bind fun z m => pairS y z m else .ok none m4) = .ok o m3 := eo
          refine ⟨δ', m', ρ', F2, M2, rs3, ?_⟩
          rw [ec]
          intro v H4 ρ4 F4 x4 M4 ev
          subst ev
          obtain ⟨M4h, hc4⟩ := M2h.hidden hc2 x4 M4
          have P4 := Post.on (x4.hide (L := L)) P3
          cases v with
          | false =>
            rw [if_neg (by simp)] at eo ⊢
            injection eo with e1 e2
            subst e1 e2
            exact ⟨ad, av, m4, ρ4, F4, (x1.trans (x2.hide (L := L))).trans x4.hide, M4h, hc4, RPk.up (x4.Sub) (RPk.up x2.Sub rd), by omega, P4⟩
          | true =>
            rw [if_pos rfl] at eo ⊢
            refine ⟨δ', m4, ρ4, F4, M4, rs3.mono x4, ?_⟩
            cases er : rk δ' m4 with
            | no => rw [er] at eo; cases eo
            | ex _ _ => rw [er] at eo; cases eo
            | ok y m5 =>
              rw [er] at eo
              have eo : ((rv δ' m5).bind fun z m => pairS y z m) = .ok o m3 := eo
              intro yv H5 ρ5 F5 x5 M5 r5
              obtain ⟨M5h, hc5⟩ := M4h.hidden hc4 x5 M5
              have P5 := Post.on (x5.hide (L := L)) P4
              refine ⟨δ', m5, ρ5, F5, M5, (rs3.mono x4).mono x5, ?_⟩
              cases ev : rv δ' m5 with
              | no => rw [ev] at eo; cases eo
              | ex _ _ => rw [ev] at eo; cases eo
              | ok z m6 =>
                rw [ev] at eo
                have eo : pairS y z m6 = .ok o m3 := eo
                intro zv H6 ρ6 F6 x6 M6 r6
                obtain ⟨M6h, hc6⟩ := M5h.hidden hc5 x6 M6
                have P6 := Post.on (x6.hide (L := L)) P5
                unfold pairS at eo
                split at eo
                · rename_i y' z'
                  injection eo with e1 e2
                  subst e1 e2
                  dsimp only at P6
                  split at P6
                  · rename_i ad' ead
                    have rd6 := RPk.up x6.Sub (RPk.up x5.Sub (RPk.up x4.Sub (RPk.up x2.Sub rd)))
                    obtain ⟨κ, hk, rp, hle⟩ := putP_rel ead rd6 (RP.up x6.Sub r5) r6
                    refine ⟨av, κ, hk, hc6, by have := RPk.len rd; omega, ad', putK av κ zv, m6, ρ6, F6, ?_, ?_, upd_same, rp, by omega, ?_⟩
                    · rw [hide_upd]; exact (((x1.trans (x2.hide (L := L))).trans x4.hide).trans x5.hide).trans x6.hide
                    · rw [hide_upd]; exact M6h
                    · rw [hide_upd]; exact P6
                  · exact P6.elim
                · cases eo
    · exact P1.elim
  · have e : i = its.l.length := by omega
    subst e
    rw [List.drop_length] at P1
    unfold dcRun at P1
    split at P1
    · rename_i held
      refine .inl ⟨(RJ ρ' F' m' Hc on M1.unhide held _).2 (List.getElem?_eq_none (Nat.le_refl _)), ?_⟩
      refine .lock hc trivial fun od => .done ?_
      obtain ⟨x2, M2⟩ := step_pure (ho := .frz od (.dK av)) M1 (hide_self (L := L) (H := Hc))
      have := P1 (.ref L) _ _ _ x2 M2 (RP.dK (od := od) (by omega) upd_same (RPk.up x2.Sub rd))
      rw [upd_hid] at this
      exact this
    · exact P1.elim
/-! ### displays; dict(zip(..)) -/
def flatVV : List (V × V) → List V
  | [] => []
  | (x, y) :: l => x :: y :: flatVV l
theorem putsP_key {k x : Dn.P} {l acc out : List (Dn.P × Dn.P)} (h : putsP acc ((k, x) :: l) = some out) : ∃ κ acc', keyP k = some κ ∧ putsP acc' l = some out := by
  unfold putsP at h
  split at h
  · rename_i acc' e
    unfold putP at e
    simp only at e
    split at e
    · rename_i κ ek
      exact ⟨κ, acc', ek, h⟩
    · cases e
  · cases h
theorem pairs_rp : ∀ {qs : List Dn.P} {kvs acc out : List (Dn.P × Dn.P)} {ps : List (V × V)}, pairsP qs = some kvs → RPs g F qs (flatVV ps) → putsP acc kvs = some out → ∃ kvs' : List (Key × V), ps = kvs'.map (fun kv => (kV kv.1, kv.2)) ∧ RPk g F kvs kvs'
  | [], kvs, acc, out, ps, e, r, h => by
    cases e
    match ps, r with
    | [], _ => exact ⟨[], rfl, .nil⟩
  | [_], kvs, acc, out, ps, e, r, h => by cases e
  | k :: x :: l, kvs, acc, out, ps, e, r, h => by
    obtain ⟨kvs1, e1, rfl⟩ := Option.map_eq_some_iff.mp (show (pairsP l).map ((k, x) :: ·) = some kvs from e)
    match ps, r with
    | (v, w) :: ps, .cons r1 (.cons r2 r) =>
      obtain ⟨κ, acc', ek, h'⟩ := putsP_key h
      obtain ⟨kvs', e2, rk⟩ := pairs_rp e1 r h'
      refine ⟨(κ, w) :: kvs', ?_, .cons ek (kOk_rp r1) r2 rk⟩
      rw [List.map_cons, ← e2, key_v ek r1]
theorem zip_rp : ∀ {ks xs : List Dn.P} {vs ws : List V} {acc out : List (Dn.P × Dn.P)}, RPs g F ks vs → RPs g F xs ws → putsP acc (ks.zip xs) = some out → ∃ kvs' : List (Key × V), RPk g F (ks.zip xs) kvs' ∧ kvs'.length = min vs.length ws.length ∧ ∀ (i : Nat) x y, vs[i]? = some x → ws[i]? = some y → ∃ κ, kvs'[i]? = some (κ, y) ∧ x = kV κ
  | [], xs, _, ws, acc, out, .nil, r, h => ⟨[], .nil, by simp, fun i x y e => by simp at e⟩
  | _ :: _, [], _, _, acc, out, _, .nil, h => ⟨[], .nil, by simp, fun i x y _ e => by simp at e⟩
  | k :: ks, x :: xs, _, _, acc, out, .cons (v := v) r1 r, .cons (v := w) r2 r', h => by
    obtain ⟨κ, acc', ek, h'⟩ := putsP_key (show putsP acc ((k, x) :: ks.zip xs) = some out from h)
    obtain ⟨kvs', rk, hl, hk⟩ := zip_rp r r' h'
    refine ⟨(κ, w) :: kvs', .cons ek (kOk_rp r1) r2 rk, by simp [hl], fun i a b e1 e2 => ?_⟩
    cases i with
    | zero => cases e1; cases e2; exact ⟨κ, rfl, key_v ek r1⟩
    | succ i => simpa using hk i a b (by simpa using e1) (by simpa using e2)
theorem putP_len {l l' : List (Dn.P × Dn.P)} {k x : Dn.P} (h : putP l false k x = some l') : l'.length ≤ l.length + 1 := by
  unfold putP at h
  simp only at h
  split at h
  · cases h
    split
    · rw [List.length_map]; omega
    · rw [List.length_append, List.length_singleton]; omega
  · cases h
theorem putsP_len : ∀ {l acc out : List (Dn.P × Dn.P)}, putsP acc l = some out → out.length ≤ acc.length + l.length
  | [], acc, out, h => by cases h; simp
  | kv :: l, acc, out, h => by
    unfold putsP at h
    split at h
    · rename_i acc' e
      have := putsP_len h
      have := putP_len e
      rw [List.length_cons]
      omega
    · cases h
theorem e_disp {trs : List (TE × TE)} {rl : Sl → Mem → R (List D)} (hp : ∀ σ H (Q : List (V × V) → Hp → Prop), rdA g W rl σ H (fun us H1 => ∀ ps, us = flatVV ps → Q ps H1) → tPairs trs σ H Q) {σ : L2.St} {H : Hp} {Q : VK}
    (h : rdE g W (fun δ m => (rl δ m).bind dispS) σ H Q) : tDisp trs σ H fun v H1 => Frzb (Q v) H1 := by
  intro p hn
  obtain ⟨δ, m, ρ, F, M, rs, P⟩ := h
  have P : PostD g ρ F m H ((rl δ m).bind dispS) Q (WE W σ) := P
  obtain ⟨x0, M0⟩ := step_alien0 (ho := .dK []) M hn
  refine hp _ _ _ ⟨δ, m, ρ, F, M0, rs.mono x0, ?_⟩
  cases e : rl δ m with
  | no => rw [e] at P; exact P.elim
  | ex z m' => rw [e] at P; exact fun cls dd H' ρ' F' x M' r => P _ _ _ _ _ (x0.trans x) M' r
  | ok xs m' =>
    rw [e] at P
    have P : PostD g ρ F m H (dispS xs m') Q (WE W σ) := P
    intro vs H2 ρ' F' x M' r ps ep
    subst ep
    have Mh : MRel g ρ F m (hide p (upd H p (.dK []))) := by rw [hide_upd, hide_none hn]; exact M
    obtain ⟨M2, hp2⟩ := Mh.hidden upd_same x M'
    have xh : Ext ρ F m H ρ' F' m' (hide p H2) := by
      have := x.hide (L := p)
      rw [hide_upd, hide_none hn] at this
      exact this
    refine ⟨hp2, ?_⟩
    unfold dispS at P
    split at P
    · rename_i qs eq
      split at P
      · rename_i kvs ek
        split at P
        · rename_i h15
          unfold dctO at P
          split at P
          · rename_i out eo
            rw [allP_eq eq] at r
            obtain ⟨kvs', e1, rk⟩ := pairs_rp ek (RPs.of r) eo
            refine ⟨kvs', e1, by rw [← RPk.len rk]; exact h15, ?_⟩
            refine .lock (d := p) (u := .dK (mergeK [] kvs')) upd_same trivial fun od => .done ?_
            have ru := putsP_rel eo (F := F') (av := []) .nil rk
            obtain ⟨x2, M3⟩ := step_pure (ho := .frz od (.dK (mergeK [] kvs'))) M2 (hide_self (L := p) (H := H2))
            have lo : out.length ≤ sizeLine := by
              have := putsP_len eo
              rw [PySem.sizeLine_eq]
              simp at this
              omega
            have := Post.on xh P (.ref p) _ _ _ x2 M3 (RP.dK (od := od) lo upd_same (RPk.up x2.Sub ru))
            rw [upd_hid] at this
            rw [upd_upd]
            exact this
          · exact P.elim
        · exact P.elim
      · exact P.elim
    · exact P.elim
theorem e_dzip (c : Cok g T' p lv X W cd) {e e2 : Expr} {np np2 q pos : Pos} {ra rb : Sl → Mem → R D} (hv : isGl cd "dict" = true) (hv2 : isGl cd "zip" = true) (he : PE X e (rdE g W ra)) (hn : noStar e = true) (he2 : PE X e2 (rdE g W rb)) (hn2 : noStar e2 = true) :
    PE X (.Call (.Name "dict" np) [.Call (.Name "zip" np2) [e, e2] [] q] [] pos) (rdE g W fun δ m => (ra δ m).bind fun x m => (rb δ m).bind fun y m => dzipS x y m) := by
  refine (pe_freeze (pe_dictZip (c.glb hv) (c.bl "dict" (by decide)) (c.glb hv2) (c.bl "zip" (by decide)) (pa_cons he (pa_cons he2 pa_nil (star_cons hn2)) (star_cons hn)) c.calm (star_cons hn) (plain_any (by rw [List.all_cons, hn2]; rfl)))).imp fun σ H Q h => rdX.bind h fun δ d m ρ F v H' M rs r P => ?_
  refine ⟨δ, m, ρ, F, M, rs, Post.bind P fun d2 m2 v2 H2 ρ2 F2 x2 M2 r2 P2 => ?_⟩
  have r' := r.mono x2
  unfold dzipS at P2
  split at P2
  · rename_i k1 ks h1 k2 vs h2 e1 e3
    unfold dctO at P2
    split at P2
    · rename_i out eo
      obtain ⟨a, us, rfl, t1, z1, s1⟩ := psq_now M2 e1 r'
      obtain ⟨b, ws, rfl, t2, z2, s2⟩ := psq_now M2 e3 r2
      obtain ⟨kvs', rk, hl, hk⟩ := zip_rp t1 t2 eo
      refine ⟨k1, k2, a, b, us, ws, kvs', rfl, by rw [c.K]; exact s1, by rw [c.K]; exact s2, hk, hl, fun p hp => ?_⟩
      refine .lock (d := p) (u := .dK (mergeK [] kvs')) upd_same trivial fun od => .done ?_
      have ru := putsP_rel eo (F := F2) (av := []) .nil rk
      obtain ⟨x3, M3⟩ := step_pure (ho := .frz od (.dK (mergeK [] kvs'))) M2 hp
      have lo : out.length ≤ sizeLine := by
        have := putsP_len eo
        rw [List.length_zip] at this
        simp at this
        omega
      have := P2 (.ref p) _ _ _ x3 M3 (RP.dK (od := od) lo upd_same (RPk.up x3.Sub ru))
      rw [upd_upd]
      exact this
    · exact P2.elim
  · exact P2.elim
end
end Dn

/-! Dn, part XE: exceptions as values. -/
namespace Dn
open PySem PySem.Spec PyProof.Rows L2
section
variable {g : Gn} {W : WX} {X : Cx} {T : Tb} {p : Pg} {lv : Nat} {cd : Cd} {ρ : Rho} {F H : Hp} {m : Mem}
theorem code_f {k : Nat} {z : Str} (h : g.fN k = "code") (hz : z.length ≤ sizeLine) : RPf g F [(k, .str z)] [("code", .str z)] := by
  have := RPf.cons (n := k) (RP.str (g := g) (H := F) z hz) .nil
  rw [h] at this
  exact this
theorem exn_post {c : Nat} {l : List (Nat × P)} {fs : List (Str × V)} {Q : VK} {E : XK} (M : MRel g ρ F m H) (t : RPf g F l fs) (P : PostD g ρ F m H (.ok (.p (.exn c l)) m) Q E) :
    ∀ a dx, H a = none → H dx = none → dx ≠ a → Q (.ref a) (upd (upd H dx (.xd fs)) a (DnX.exq a (g.xA c) dx)) := by
  intro a dx ha hd n
  obtain ⟨x1, M1⟩ := step_pure (ho := .xd fs) M hd
  have ha' : upd H dx (.xd fs) a = none := by rw [upd_ne (Ne.symm n)]; exact ha
  obtain ⟨x2, M2⟩ := step_pure (ho := DnX.exq a (g.xA c) dx) M1 ha'
  refine P _ _ _ _ (x1.trans x2) M2 (show RP g _ (.exn c l) (.ref a) from .exn (dx := dx) (fs := fs) upd_same (by rw [upd_ne n]; exact upd_same) (RPf.up (x1.trans x2).Sub t))
theorem noup_ok {x : Str} (h : nodb x = true) : (x == ("__debug__" : Str)) = false := (nodb_ok h).1
theorem made_of (c : Cok g T p lv X W cd) {n : Nat} {x : Str} (hx : T.xm n = some x) : ∃ k z fo, p.gv.xc n = some (k, z, fo) := by
  obtain ⟨⟨k, z, fo⟩, e⟩ := Option.isSome_iff_exists.mp (c.xm n x hx).2
  exact ⟨k, z, fo, e⟩
/-- the made exception's shape is the class's -/
theorem excF_at {c : Nat} {k : Nat} {z : Str} {fo : Option Nat} {fl : Option (Str × Str)} {params : Arguments} {body : List Stmt} {scope : Scope} {fI : Addr} {ds : List D} {vs : List V} {l : List (Nat × P)} (q : p.gv.xc c = some (k, z, fo))
    (h1 : XfRel g T c fo fl) (h3 : g.fN k = "code") (h4 : z.length ≤ sizeLine) (e : excF p.gv c ds = some l) (r : RDs g ρ F m.length ds vs) :
    vs.length = (if fl.isSome then 1 else 0) ∧ RPf g F l (DnX.fsX z (DnX.valV fl vs.head?)) := by
  unfold excF at e
  rw [q] at e
  cases fo with
  | none =>
    cases fl with
    | some _ => exact h1.elim
    | none =>
      dsimp only at e
      split at e
      · cases e
        cases vs with
        | cons _ _ => exact r.elim
        | nil => exact ⟨rfl, code_f h3 h4⟩
      · cases e
  | some f =>
    cases fl with
    | none => exact h1.elim
    | some w =>
      obtain ⟨x, n⟩ := w
      obtain ⟨h1, h5⟩ := h1
      subst h1
      dsimp only at e
      split at e
      · rename_i y
        cases e
        match vs, r with
        | [v], r => exact ⟨rfl, .cons r.1 (code_f h3 h4)⟩
      · cases e
theorem excS_post {c : Nat} {k : Nat} {z : Str} {fo : Option Nat} {fl : Option (Str × Str)} {params : Arguments} {body : List Stmt} {scope : Scope} {fI : Addr} {ds : List D} {vs : List V} {Q : VK} {E : XK} (q : p.gv.xc c = some (k, z, fo))
    (h1 : XfRel g T c fo fl) (h3 : g.fN k = "code") (h4 : z.length ≤ sizeLine) (M : MRel g ρ F m H) (r : RDs g ρ F m.length ds vs) (P : PostD g ρ F m H (excS p.gv c ds m) Q E) :
    vs.length = (if fl.isSome then 1 else 0) ∧ ∀ a dx, H a = none → H dx = none → dx ≠ a → Q (.ref a) (upd (upd H dx (.xd (DnX.fsX z (DnX.valV fl vs.head?)))) a (DnX.exq a (g.xA c) dx)) := by
  unfold excS at P
  cases e : excF p.gv c ds with
  | none => rw [e] at P; exact P.elim
  | some l =>
    rw [e] at P
    obtain ⟨t1, t2⟩ := excF_at (scope := scope) (params := params) (body := body) (fI := fI) q h1 h3 h4 e r
    exact ⟨t1, exn_post M t2 P⟩
theorem e_exn0 (c : Cok g T p lv X W cd) {n : Nat} {x : Str} {np pos : Pos} (hx : T.xm n = some x) (hg : isGl cd x = true) (hd : nodb x = true) : PE X (.Call (.Name x np) [] [] pos) (rdE g W fun δ m => (R.ok ([] : List Dn.D) m).bind fun xs m => excS p.gv n xs m) := by
  obtain ⟨k, z, fo, q⟩ := made_of c hx
  obtain ⟨⟨fl, params, body, scope, fI, h1, h2⟩, h3, h4, _⟩ := c.xc _ _ _ _ q
  refine (DnX.pe_exn0 (k := 3 * lv + 3) h2 c.room (c.glb hg) (c.xm n x hx).1 (noup_ok hd)).imp fun σ H Q ⟨δ, m, ρ, F, M, rs, P⟩ => ?_
  exact excS_post (ds := []) (vs := []) (scope := scope) (params := params) (body := body) (fI := fI) q h1 h3 h4 M trivial P
theorem e_exn1 (c : Cok g T p lv X W cd) {n : Nat} {x : Str} {np pos : Pos} {e : Expr} {es : List Expr} {rl : Sl → Mem → R (List Dn.D)} (hx : T.xm n = some x) (hg : isGl cd x = true) (hd : nodb x = true) (ha : PA X (e :: es) (rdA g W rl)) (he : starEach (e :: es) X.env = (false, eval e X.env) :: starEach es X.env) (hpl : (backTo pos (starEach es X.env)).any (·.1) = false) :
    PE X (.Call (.Name x np) (e :: es) [] pos) (rdE g W fun δ m => (rl δ m).bind fun xs m => excS p.gv n xs m) := by
  obtain ⟨k, z, fo, q⟩ := made_of c hx
  obtain ⟨⟨fl, params, body, scope, fI, h1, h2⟩, h3, h4, _⟩ := c.xc _ _ _ _ q
  refine (DnX.pe_exn1 (k := 3 * lv + 3) h2 c.room (c.glb hg) (c.xm n x hx).1 ha (noup_ok hd) he hpl).imp fun σ H Q h => ?_
  exact rdX.bind h fun δ ds m ρ F vs H' M rs r P => excS_post (scope := scope) (params := params) (body := body) (fI := fI) q h1 h3 h4 M r P
theorem e_exnK (c : Cok g T p lv X W cd) {n : Nat} {x y : Str} {np kp pos : Pos} {e : Expr} {re : Sl → Mem → R Dn.D} (hx : T.xm n = some x) (hy : T.xp n = some y) (hg : isGl cd x = true) (hd : nodb x = true) (ha : PE X e (rdE g W re)) :
    PE X (.Call (.Name x np) [] [⟨some y, e, kp⟩] pos) (rdE g W fun δ m => (re δ m).bind fun d m => excS p.gv n [d] m) := by
  obtain ⟨k, z, fo, q⟩ := made_of c hx
  obtain ⟨⟨fl, params, body, scope, fI, h1, h2⟩, h3, h4, _⟩ := c.xc _ _ _ _ q
  cases fo with
  | none =>
    cases fl with
    | some _ => exact h1.elim
    | none =>
      have no := c.xpn n y hy
      rw [q] at no
      cases no
  | some f =>
    cases fl with
    | none => exact h1.elim
    | some w =>
      obtain ⟨x', n'⟩ := w
      have e1 : x' = y := by
        have := h1.2.symm.trans hy
        cases this
        rfl
      subst e1
      refine (DnX.pe_exnK (k := 3 * lv + 3) h2 c.room rfl (c.glb hg) (c.xm n x hx).1 ha (noup_ok hd)).imp fun σ H Q h => ?_
      refine rdX.bind h fun δ d m ρ F v H' M rs r P => ?_
      exact (excS_post (ds := [d]) (vs := [v]) (scope := scope) (params := params) (body := body) (fI := fI) q h1 h3 h4 M ⟨r, trivial⟩ P).2
theorem e_xfld (c : Cok g T p lv X W cd) {a : Expr} {x : Str} {f : Nat} {pos : Pos} {ra : Sl → Mem → R Dn.D} (hx : T.fl f = some x) (ha : PE X a (rdE g W ra)) (hb : noSup a = true) : PE X (.Attribute a x pos) (rdE g W fun δ m => (ra δ m).bind fun d m => xfS p.gv f d m) := by
  have ex := c.fl f x hx
  subst ex
  refine (DnX.pe_xfv ha (noSup_ok hb)).imp fun σ H Q h => rdX.bind h fun δ d m ρ F v H' M rs r P => ?_
  unfold xfS at P
  split at P
  · rename_i k l
    split at P
    · rename_i k' z fo q
      obtain ⟨⟨fl, params, body, scope, fI, h1, h2⟩, h3, h4, h5⟩ := c.xc _ _ _ _ q
      split at P
      · rename_i hf
        split at P
        · rename_i y ey
          have r : RP g F (.exn k l) v := r
          cases r with
          | exn ea ed t =>
            have lk := lookF_rp (f := f) c.kf.inj t
            rw [ey] at lk
            obtain ⟨v', w, rv⟩ := lk
            refine ⟨_, _, _, _, v', rfl, h5, ?_, M.sub.exq ea, M.sub.xd ed, w, P.val M rv⟩
            rcases hf with rfl | rfl
            · rw [h3]
              exact h2.W.nc
            · cases fl with
              | none => exact h1.elim
              | some w =>
                obtain ⟨x', n'⟩ := w
                rw [h1.1]
                exact (h2.W.nf _ _ rfl).1
        · exact P.elim
      · exact P.elim
    · exact P.elim
  · exact P.elim
theorem boot_VE : bootBuiltins "ValueError" = some (.type "ValueError") := by decide +kernel
theorem boot_LE : bootBuiltins "LookupError" = some (.type "LookupError") := by decide +kernel
theorem boot_IE : bootBuiltins "IndexError" = some (.type "IndexError") := by decide +kernel
def xtN (T : Tb) : XT → Option Str
  | .own c => T.xn c
  | .blt n => some (Str.ofString (xbN n))
def xtV (g : Gn) : XT → V
  | .own c => .ref (g.xA c)
  | .blt n => .ty (xbN n)
theorem e_xt (c : Cok g T p lv X W cd) {t : XT} {x : Str} {pos : Pos} (h : xtN T t = some x) (hv : isGl cd x = true) (hd : nodb x = true) : PE X (.Name x pos) (tC (xtV g t)) := by
  match t with
  | .own n => exact pe_glob (c.glb hv) (c.xn n x h) rfl (nodb_ok hd).1
  | .blt 0 => cases h; exact pe_bltn (c.glb hv) (c.bl "ValueError" (by decide)) boot_VE rfl (by decide) (nodb_ok hd).1
  | .blt 1 => cases h; exact pe_bltn (c.glb hv) (c.bl "LookupError" (by decide)) boot_LE rfl (by decide) (nodb_ok hd).1
  | .blt (n + 2) => cases h; exact pe_bltn (c.glb hv) (c.bl "IndexError" (by decide)) boot_IE rfl (show Str.ofString "IndexError" ≠ Str.ofString "__name__" by decide) (nodb_ok hd).1
theorem xtU_ok (t : XT) : ∀ u, RelV (xtV g t) u → u = xtU g t := fun u r => by
  cases t with
  | own c => exact r
  | blt n => exact r
theorem e_xis (c : Cok g T p lv X W cd) {a : Expr} {x : Str} {t : XT} {np xp pos : Pos} {ra : Sl → Mem → R Dn.D} (hv : isGl cd "isinstance" = true) (ha : PE X a (rdE g W ra)) (hn : noStar a = true) (ht : xtN T t = some x) (hg : isGl cd x = true) (hd : nodb x = true) :
    PE X (.Call (.Name "isinstance" np) [a, .Name x xp] [] pos) (rdE g W fun δ m => (ra δ m).bind fun d m => xisS p.gv t d m) := by
  refine (pe_callB DnX.call_isX (c.glb hv) (c.bl "isinstance" (by decide)) boot_isinstance (pa_cons ha (pa_cons (e_xt c ht hg hd) pa_nil rfl) (star_cons hn)) (by decide) (by decide) (star_cons hn) rfl).imp fun σ H Q h => rdX.bind h fun δ d m ρ F v H' M rs r P => ?_
  unfold xisS at P
  split at P
  · rename_i k l
    split at P
    · rename_i b eb
      obtain ⟨h1, h2⟩ := c.xsub _ _ _ eb
      have r : RP g F (.exn k l) v := r
      cases r with
      | exn ea ed t1 => exact ⟨_, _, _, _, xtV g t, xtU g t, b, rfl, h1, M.sub.exq ea, M.sub.xd ed, xtU_ok t, h2, P.val M (RP.bl b)⟩
    · exact P.elim
  · exact P.elim
end
end Dn

/-! Dn, part N: the check of expressions is enough. -/
namespace Dn
open PySem PySem.Spec PyProof.Rows L2
def noIf : Expr → Bool
  | .IfExp .. => false
  | _ => true
def restE (op : BoolOp) (y : Expr) (l : List Expr) (pos : Pos) : Expr := match l with
  | [] => y
  | _ :: _ => .BoolOp op (y :: l) pos
def blkB (cd : Cd) (scope : Scope) (own : List Nat) : Bool :=
  decide (scope.kind = .function) && scope.names.all (fun y => decide (scope.names.lookup y.1 = some y.2)) && own.all (fun i => (cd.N[i]?).isSome) &&
  scope.names.all (fun y => match y.2 with
    | .free => (match cd.sc.names.lookup y.1 with | some .cell => true | some .free => true | _ => false)
    | .local => (own.any fun i => decide (cd.N[i]? = some y.1)) || !decide (y.1 ∈ cd.N)
    | .cell => (own.any fun i => decide (cd.N[i]? = some y.1)) || !decide (y.1 ∈ cd.N)
    | _ => true)
def blkCd (cd : Cd) (scope : Scope) : Cd := ⟨cd.N, relS scope cd.sc, fun x => scope.names.lookup x == some .cell⟩
mutual
def chkE (T : Tb) (cd : Cd) : RE → Expr → Bool
  | .var i, e => match e with
    | .Name x _ => decide (cd.N[i]? = some x) && isVis cd x && nodb x
    | _ => false
  | .cst x, e => match e with
    | .Constant k _ _ => cstOk x k
    | _ => false
  | .glo n, e => match e with
    | .Name x _ => decide (T.gl n = some x) && isGl cd x && nodb x
    | _ => false
  | .tup l, e => match e with
    | .Tuple es _ _ => chkL T cd l es && decide (l.len ≤ 10000)
    | _ => false
  | .lst _ l, e => match e with
    | .List es _ => chkL T cd l es && decide (l.len ≤ 10000)
    | _ => false
  | .bin o a b, e => match e with
    | .BinOp x op y _ => decide (op = bO o) && chkE T cd a x && chkE T cd b y
    | _ => false
  | .neg a, e => match e with
    | .UnaryOp op x _ => decide (op = .USub) && chkE T cd a x
    | _ => false
  | .cmp o a b, e => match e with
    | .Compare x [op] [y] _ => decide (op = cO o) && chkE T cd a x && chkE T cd b y && noSet y
    | _ => false
  | .cmp2 o o' a b c, e => match e with
    | .Compare x [op, op'] [y, z] _ => decide (op = cO o) && decide (op' = cO o') && chkE T cd a x && chkE T cd b y && chkE T cd c z && noSet z
    | _ => false
  | .and a b, e => match e with
    | .BoolOp op (x :: y :: l) pos => decide (op = .And) && chkE T cd a x && noIf x && chkE T cd b (restE .And y l pos) && noIf (restE .And y l pos)
    | _ => false
  | .or a b, e => match e with
    | .BoolOp op (x :: y :: l) pos => decide (op = .Or) && chkE T cd a x && noIf x && chkE T cd b (restE .Or y l pos) && noIf (restE .Or y l pos)
    | _ => false
  | .not a, e => match e with
    | .UnaryOp op x _ => decide (op = .Not) && chkE T cd a x && noIf x
    | _ => false
  | .ite c a b, e => match e with
    | .IfExp x y z _ => chkE T cd c x && noIf x && chkE T cd a y && chkE T cd b z
    | _ => false
  | .isi a one l, e => match e with
    | .Call (.Name f _) [x, t] [] _ => decide (f = "isinstance") && isGl cd f && chkE T cd a x && noStar x && (match one with
      | true => (match l with | [c] => tysOk T cd [c] [t] | _ => false)
      | false => (match t with | .Tuple es _ _ => decide (l.length ≤ 100) && !l.isEmpty && tysOk T cd l es | _ => false))
    | _ => false
  | .ix a b, e => match e with
    | .Subscript x y _ => chkE T cd a x && chkE T cd b y && noSl y
    | _ => false
  | .sl a lo hi, e => match e with
    | .Subscript x (.Slice l h none _) _ => chkE T cd a x && chkO T cd lo l && chkO T cd hi h
    | _ => false
  | .call f l, e => match e with
    | .Call (.Name x _) es [] _ => decide (T.fn f = some x) && isGl cd x && nodb x && chkL T cd l es && (match es with | [] => true | a :: _ => noStar a)
    | _ => false
  | .callK f l kl pm, e => match e with
    | .Call (.Name x _) es kws _ => decide (T.fn f = some x) && isGl cd x && nodb x && chkL T cd l es && es.all noStar && l.plain && chkK T cd kl kws && kl.plain && (match kwNames kws with | some ks => decide (T.kw f l.len ks = some pm) && decide (kl.len = ks.length) | none => false)
    | _ => false
  | .bcl f l, e => match e with
    | .Call (.Name x _) (a :: es) [] _ => decide (x = Str.ofString (bfN f)) && isGl cd x && chkL T cd l (a :: es) && (a :: es).all noStar
    | _ => false
  | .bmt f a l, e => match e with
    | .Call (.Attribute o x ap) es [] pos => decide (x = Str.ofString (bmN f)) && chkE T cd a o && noSup o && chkL T cd l es && es.all noStar && decide (es.length < 30) && (ap.endLine == pos.line)
    | _ => false
  | .lc _ elt t it c own, e => match e with
    | .ListComp ee [⟨tg, iter, ifs, as⟩] scope _ => decide (as = 0) && chkI T cd it tg iter && blkB cd scope own && t.ixs.all (fun i => decide (i ∈ own)) && chkT (blkCd cd scope) t tg && chkC T (blkCd cd scope) c ifs && chkE T (blkCd cd scope) elt ee && noSet iter
    | _ => false
  | .lc2 _ elt t it c t1 it1 c1 own own1, e => match e with
    | .ListComp ee [⟨tg, iter, ifs, as⟩, ⟨tg1, iter1, ifs1, as1⟩] scope _ => decide (as = 0) && decide (as1 = 0) && chkI T cd it tg iter && blkB cd scope own && t.ixs.all (fun i => decide (i ∈ own)) && chkT (blkCd cd scope) t tg && chkC T (blkCd cd scope) c ifs && chkE T (blkCd cd scope) elt ee && noSet iter &&
        t1.ixs.all (fun i => decide (i ∈ own1)) && own1.all (fun i => decide (i ∈ own)) && chkI T (blkCd cd scope) it1 tg1 iter1 && chkT (blkCd cd scope) t1 tg1 && chkC T (blkCd cd scope) c1 ifs1 && noSet iter1
    | _ => false
  | .frz a, e => chkE T cd a e && plainT e
  | .fld a f, e => match e with
    | .Attribute o x _ => decide (T.fl f = some x) && chkE T cd a o && noSup o
    | _ => false
  | .prop a n, e => match e with
    | .Attribute o x _ => decide (T.mn n = some x) && chkE T cd a o && noSup o
    | _ => false
  | .meth a n l, e => match e with
    | .Call (.Attribute o x ap) es [] pos => decide (T.mn n = some x) && chkE T cd a o && noSup o && chkL T cd l es && es.all noStar && decide (es.length < 30) && (ap.endLine == pos.line)
    | _ => false
  | .make k l, e => match e with
    | .Call (.Name y _) es [] _ => decide (T.cn k = some y) && isGl cd y && nodb y && chkL T cd l es && (match es with | [] => true | a :: _ => noStar a)
    | _ => false
  | .makeV i k l, e => match e with
    | .Call (.Name y _) es [] _ => decide (cd.N[i]? = some y) && isVis cd y && nodb y && chkL T cd l es && (match es with | [] => true | a :: _ => noStar a)
    | _ => false
  | .ccon k n, e => match e with
    | .Attribute (.Name y _) x _ => decide (T.cn k = some y) && decide (T.cc n = some x) && isGl cd y && nodb y
    | _ => false
  | .smeth k n l, e => match e with
    | .Call (.Attribute (.Name y _) x ap) (z :: es) [] pos => decide (T.cn k = some y) && decide (T.sn n = some x) && isGl cd y && nodb y && chkL T cd l (z :: es) && (z :: es).all noStar && decide ((z :: es).length < 30) && (ap.endLine == pos.line)
    | _ => false
  | .smethK f k n kl pm, e => match e with
    | .Call (.Attribute (.Name y _) x ap) [] kws pos => decide (T.cn k = some y) && decide (T.sn n = some x) && isGl cd y && nodb y && chkK T cd kl kws && kl.plain && (match kwNames kws with | some ks => decide (T.kw f 1 ks = some pm) && decide (kl.len = ks.length) | none => false) && decide (kws.length < 29) && (ap.endLine == pos.line)
    | _ => false
  | .fmt a, e => match e with
    | .FormattedValue x cv none _ => decide (cv = -1) && chkE T cd a x
    | _ => false
  | .fstr l, e => match e with
    | .JoinedStr (x :: y :: es) _ => chkL T cd l (x :: y :: es) && l.plain
    | _ => false
  | .rev a, e => match e with
    | .Subscript x (.Slice none none (some (.UnaryOp op (.Constant k _ _) _)) _) _ => decide (op = .USub) && cstOk (.int 1) k && chkE T cd a x
    | _ => false
  | .dnew _, e => match e with
    | .Dict [] [] _ => true
    | _ => false
  | .disp l, e => match e with
    | .Dict ks vs _ => chkP T cd l ks vs && !ks.isEmpty && decide (ks.all (·.isSome) = true ∧ ks.length = vs.length ∧ ks.length ≤ 15)
    | _ => false
  | .dzip a b, e => match e with
    | .Call (.Name f _) [.Call (.Name f2 _) [x, y] [] _] [] _ => decide (f = "dict") && decide (f2 = "zip") && isGl cd f && isGl cd f2 && chkE T cd a x && noStar x && chkE T cd b y && noStar y
    | _ => false
  | .dcm t kx vx tg it c own, e => match e with
    | .DictComp ke ve [⟨tgx, iter, ifs, as⟩] scope _ => !t && decide (as = 0) && chkI T cd it tgx iter && blkB cd scope own && tg.ixs.all (fun i => decide (i ∈ own)) && chkT (blkCd cd scope) tg tgx && chkC T (blkCd cd scope) c ifs && chkE T (blkCd cd scope) kx ke && chkE T (blkCd cd scope) vx ve && noSet iter
    | _ => false
  | .wall, e => plainT e
  | .exn k l, e => match e with
    | .Call (.Name y _) es [] _ => decide (T.xm k = some y) && isGl cd y && nodb y && chkL T cd l es && es.all noStar
    | _ => false
  | .exnK k a, e => match e with
    | .Call (.Name y _) [] [⟨some z, x, _⟩] _ => decide (T.xm k = some y) && decide (T.xp k = some z) && isGl cd y && nodb y && chkE T cd a x
    | _ => false
  | .xfld a f, e => match e with
    | .Attribute o x _ => decide (T.fl f = some x) && chkE T cd a o && noSup o
    | _ => false
  | .xis a t, e => match e with
    | .Call (.Name f _) [x, .Name y _] [] _ => decide (f = "isinstance") && isGl cd f && chkE T cd a x && noStar x && decide (xtN T t = some y) && isGl cd y && nodb y
    | _ => false
def chkL (T : Tb) (cd : Cd) : RL → List Expr → Bool
  | .nil, es => es.isEmpty
  | .cons a l, es => match es with
    | e :: es => chkE T cd a e && noStar e && chkL T cd l es
    | [] => false
  | .star a l, es => match es with
    | .Starred e _ :: es => chkE T cd a e && chkL T cd l es
    | _ => false
def chkP (T : Tb) (cd : Cd) : RL → List (Option Expr) → List Expr → Bool
  | .cons a (.cons b l), ks, vs => match ks, vs with
    | some k :: ks, v :: vs => chkE T cd a k && chkE T cd b v && chkP T cd l ks vs
    | _, _ => false
  | .nil, ks, vs => ks.isEmpty && vs.isEmpty
  | _, _, _ => false
def chkK (T : Tb) (cd : Cd) : RL → List Keyword → Bool
  | .nil, es => es.isEmpty
  | .cons a l, es => match es with
    | ⟨_, e, _⟩ :: es => chkE T cd a e && chkK T cd l es
    | [] => false
  | .star _ _, _ => false
def chkO (T : Tb) (cd : Cd) : RO → Option Expr → Bool
  | .none, o => o.isNone
  | .some a, o => match o with
    | some e => chkE T cd a e
    | none => false
def chkC (T : Tb) (cd : Cd) : RO → List Expr → Bool
  | .none, es => es.isEmpty
  | .some a, es => match es with
    | [e] => chkE T cd a e && noIf e
    | _ => false
def chkI (T : Tb) (cd : Cd) : RI → Expr → Expr → Bool
  | .seq a, _, e => chkE T cd a e
  | .rng a, _, e => match e with
    | .Call (.Name f _) [x] [] _ => decide (f = "range") && isGl cd f && chkE T cd a x && noStar x
    | _ => false
  | .rng2 a b, _, e => match e with
    | .Call (.Name f _) [x, y] [] _ => decide (f = "range") && isGl cd f && chkE T cd a x && noStar x && chkE T cd b y && noStar y
    | _ => false
  | .zip l, _, e => match e with
    | .Call (.Name f _) (x :: es) [] _ => decide (f = "zip") && isGl cd f && chkL T cd l (x :: es) && (x :: es).all noStar
    | _ => false
  | .keys a, _, e => chkE T cd a e
  | .enum a, tg, e => match e, tg with
    | .Call (.Name f _) [x] [] _, .Tuple _ _ _ => decide (f = "enumerate") && isGl cd f && chkE T cd a x && noStar x
    | _, _ => false
end
section
variable {g : Gn} {W : WX} {X : Cx} {T : Tb} {p : Pg} {lv : Nat} {cd : Cd}
theorem len_den {cl : Nat → List D → Mem → R D} {gv : Gv} : ∀ {l : RL} {δ : Sl} {m m' : Mem} {xs : List D}, l.plain = true → denL cl gv l δ m = .ok xs m' → xs.length = l.len
  | .nil, δ, m, m', xs, _, h => by unfold denL at h; cases h; rfl
  | .cons a l, δ, m, m', xs, hp, h => by
    unfold denL at h
    cases e : den cl gv a δ m with
    | no => rw [e] at h; cases h
    | ex _ _ => rw [e] at h; cases h
    | ok x m1 =>
      rw [e] at h
      have h : ((denL cl gv l δ m1).bind fun xs m => R.ok (x :: xs) m) = .ok xs m' := h
      cases e2 : denL cl gv l δ m1 with
      | no => rw [e2] at h; cases h
      | ex _ _ => rw [e2] at h; cases h
      | ok ys m2 =>
        rw [e2] at h
        cases h
        exact congrArg Nat.succ (len_den (l := l) hp e2)
  | .star _ _, _, _, _, _, hp, _ => by cases hp
/-- what is known of an expression -/
structure Ev (g : Gn) (p : Pg) (lv : Nat) (re : RE) (W : WX) (X : Cx) (e : Expr) : Prop where
  pe : PE X e (rdE g W (den (callAt p lv) p.gv re))
  pt : noIf e = true → PT X e (rdT g W fun δ m => (den (callAt p lv) p.gv re δ m).bind asB)
  pw : ∀ op l pos, e = .BoolOp op l pos → PW X e (rdT g W fun δ m => (den (callAt p lv) p.gv re δ m).bind asB)
theorem Ev.plain {re : RE} {e : Expr} (h : PE X e (rdE g W (den (callAt p lv) p.gv re))) (hp : plainT e = true) : Ev g p lv re W X e :=
  ⟨h, fun _ => t_val h hp, fun op l pos z => by subst z; cases hp⟩
theorem and3 {a b : Bool} (h : (a && b) = true) : a = true ∧ b = true := Bool.and_eq_true_iff.mp h
/-- the context of a comprehension's block -/
theorem Cok.blk (c : Cok g T p lv X W cd) {s : Shared} {H : Hp} {scope : Scope} {C : Addr} {cl : List (Str × Addr)} {fp : List Addr} : Cok g T p lv (X.blk s H scope (compEnvC scope cl C X.env) fp) W0 (blkCd cd scope) where
  K := c.K
  kf := c.kf
  N := c.N
  sc := by show relS scope X.env.scope = relS scope cd.sc; rw [c.sc]
  fn := rfl
  nd := c.nd
  calm := c.calm
  tk := fun u s' ⟨_, _, _, _, _, _, _, _, _, _, _, _, _, _, _, _, w⟩ => w
  room := c.room
  bl := c.bl
  call := c.call
  callK := c.callK
  gl := c.gl
  cn := c.cn
  fl := c.fl
  fk := c.fk
  mt := c.mt
  pr := c.pr
  ini := c.ini
  om := c.om
  one := c.one
  cc := c.cc
  smK := c.smK
  sm := c.sm
  xn := c.xn
  xm := c.xm
  xc := c.xc
  xpn := c.xpn
  xsub := c.xsub
def ownS (cd : Cd) (own : List Nat) : List (Str × Nat) := own.map fun i => ((cd.N[i]?).getD ⟨#[]⟩, i)
theorem blkB_ok (c : Cok g T p lv X W cd) {scope : Scope} {own : List Nat} (h : blkB cd scope own = true) : BlkOk X.N X.env.scope scope (ownS cd own) := by
  unfold blkB at h
  obtain ⟨h, h4⟩ := and3 h
  obtain ⟨h, h3⟩ := and3 h
  obtain ⟨h1, h2⟩ := and3 h
  have ow : ∀ x : Str, (own.any fun i => decide (cd.N[i]? = some x)) = true → x ∈ (ownS cd own).map (·.1) := fun x hx => by
    obtain ⟨i, hi, e⟩ := List.any_eq_true.mp hx
    have e := of_decide_eq_true e
    refine List.mem_map.mpr ⟨((cd.N[i]?).getD ⟨#[]⟩, i), List.mem_map.mpr ⟨i, hi, rfl⟩, ?_⟩
    show (cd.N[i]?).getD ⟨#[]⟩ = x
    rw [e]; rfl
  refine ⟨of_decide_eq_true h1, fun y hy => of_decide_eq_true (List.all_eq_true.mp h2 y hy), fun q hq => ?_, fun y hy e => ?_, fun y hy e => ?_⟩
  · obtain ⟨i, hi, rfl⟩ := List.mem_map.mp hq
    have := List.all_eq_true.mp h3 i hi
    rw [c.N]
    show cd.N[i]? = some ((cd.N[i]?).getD ⟨#[]⟩)
    cases z : cd.N[i]? with
    | none => rw [z] at this; cases this
    | some v => rfl
  · have := List.all_eq_true.mp h4 y hy
    rw [e] at this
    dsimp only at this
    rw [c.sc]
    split at this
    · rename_i z; exact .inl z
    · rename_i z; exact .inr z
    · cases this
  · have := List.all_eq_true.mp h4 y hy
    rw [c.N]
    rcases e with e | e <;>
    · rw [e] at this
      dsimp only at this
      rcases Bool.or_eq_true_iff.mp this with z | z
      · exact .inl (ow _ z)
      · exact .inr (by simpa using z)
theorem ownS_snd (cd : Cd) (own : List Nat) : (ownS cd own).map (·.2) = own := by
  unfold ownS
  rw [List.map_map]
  exact List.map_id _
theorem fold_ok {iter : Expr} {env : Env} (h : noSet iter = true) : ∀ x, foldedSetIterable iter env x = pure x := by
  intro x
  cases iter <;> first | rfl | cases h
/-- a comprehension's parts -/
structure LcP (g : Gn) (p : Pg) (lv : Nat) (elt : RE) (t : Dn.T) (it : RI) (cnd : RO) (own : List Nat) (X : Cx) (W : WX) (ee tg iter : Expr) (ifs : List Expr) (scope : Scope) (ow : List (Str × Nat)) : Prop where
  owe : ow.map (·.2) = own
  pi : PI X tg iter (rdIt g W (denI (callAt p lv) p.gv it))
  ok : BlkOk X.N X.env.scope scope ow
  ixs : ∀ i ∈ t.ixs, i ∈ own
  pg : ∀ (s : Shared) (H : Hp) (C : Addr) (cl : List (Str × Addr)) (fp : List Addr), PG (X.blk s H scope (compEnvC scope cl C X.env) fp) tg (rdG g t)
  pt : ∀ (s : Shared) (H : Hp) (C : Addr) (cl : List (Str × Addr)) (fp : List Addr), PTs (X.blk s H scope (compEnvC scope cl C X.env) fp) ifs (rdT g W0 (denC (callAt p lv) p.gv cnd))
  pe : ∀ (s : Shared) (H : Hp) (C : Addr) (cl : List (Str × Addr)) (fp : List Addr), PE (X.blk s H scope (compEnvC scope cl C X.env) fp) ee (rdE g W0 (den (callAt p lv) p.gv elt))
  fs : ∀ x, foldedSetIterable iter X.env x = pure x
theorem lcP_mk (c : Cok g T p lv X W cd) {mu : Bool} {elt : RE} {t : Dn.T} {it : RI} {cnd : RO} {own : List Nat} {e : Expr} (h : chkE T cd (.lc mu elt t it cnd own) e = true)
    (hI : ∀ {tg iter}, chkI T cd it tg iter = true → PI X tg iter (rdIt g W (denI (callAt p lv) p.gv it)))
    (hC : ∀ {X' cd' ifs}, Cok g T p lv X' W0 cd' → chkC T cd' cnd ifs = true → PTs X' ifs (rdT g W0 (denC (callAt p lv) p.gv cnd)))
    (hE : ∀ {X' cd' ee}, Cok g T p lv X' W0 cd' → chkE T cd' elt ee = true → PE X' ee (rdE g W0 (den (callAt p lv) p.gv elt))) :
    ∃ ee tg iter ifs scope pos, e = .ListComp ee [⟨tg, iter, ifs, 0⟩] scope pos ∧ LcP g p lv elt t it cnd own X W ee tg iter ifs scope (ownS cd own) := by
  unfold chkE at h
  split at h
  · rename_i ee tg iter ifs as scope pos
    obtain ⟨h, h8⟩ := and3 h
    obtain ⟨h, h7⟩ := and3 h
    obtain ⟨h, h6⟩ := and3 h
    obtain ⟨h, h5⟩ := and3 h
    obtain ⟨h, h4⟩ := and3 h
    obtain ⟨h, h3⟩ := and3 h
    obtain ⟨h1, h2⟩ := and3 h
    have h1 := of_decide_eq_true h1
    subst h1
    exact ⟨ee, tg, iter, ifs, scope, pos, rfl, ownS_snd cd own, hI h2, blkB_ok c h3, fun i hi => of_decide_eq_true (List.all_eq_true.mp h4 i hi), fun s H C cl fp => g_ok c.blk h5, fun s H C cl fp => hC c.blk h6, fun s H C cl fp => hE c.blk h7, fold_ok h8⟩
  · cases h
theorem LcP.rd (c : Cok g T p lv X W cd) {mu : Bool} {elt : RE} {t : Dn.T} {it : RI} {cnd : RO} {own : List Nat} {ee tg iter : Expr} {ifs : List Expr} {scope : Scope} {ow : List (Str × Nat)} (L : LcP g p lv elt t it cnd own X W ee tg iter ifs scope ow) {σ : L2.St} {H : Hp} {Q : VK}
    (h : rdE g W (den (callAt p lv) p.gv (.lc mu elt t it cnd own)) σ H Q) : tLc (rdIt g W (denI (callAt p lv) p.gv it)) (rdG g t) (rdT g W0 (denC (callAt p lv) p.gv cnd)) (rdE g W0 (den (callAt p lv) p.gv elt)) (ow.map (·.2)) σ H Q := by
  refine e_lc c (mu := mu) (pos := ⟨0, 0, 0, 0⟩) L.pi L.ok (by rw [L.owe]; exact L.ixs) L.pg L.pt L.pe ?_
  rw [L.owe]
  exact h
theorem LcP.ev (c : Cok g T p lv X W cd) {mu : Bool} {elt : RE} {t : Dn.T} {it : RI} {cnd : RO} {own : List Nat} {ee tg iter : Expr} {ifs : List Expr} {scope : Scope} {pos : Pos} {ow : List (Str × Nat)} (L : LcP g p lv elt t it cnd own X W ee tg iter ifs scope ow) :
    PE X (.ListComp ee [⟨tg, iter, ifs, 0⟩] scope pos) (rdE g W (den (callAt p lv) p.gv (.lc mu elt t it cnd own))) :=
  (pe_lc c.calm c.nd L.pi L.ok L.pg L.pt L.pe L.fs).imp fun σ H Q h => L.rd c h
/-- .. of two clauses -/
structure Lc2P (g : Gn) (p : Pg) (lv : Nat) (elt : RE) (t : Dn.T) (it : RI) (cnd : RO) (t1 : Dn.T) (it1 : RI) (cnd1 : RO) (own own1 : List Nat) (X : Cx) (W : WX) (ee tg iter : Expr) (ifs : List Expr) (tg1 iter1 : Expr) (ifs1 : List Expr) (scope : Scope) (ow : List (Str × Nat)) : Prop where
  L : LcP g p lv elt t it cnd own X W ee tg iter ifs scope ow
  ixs1 : ∀ i ∈ t1.ixs, i ∈ own1
  sub : ∀ i ∈ own1, i ∈ own
  pi1 : ∀ (s : Shared) (H : Hp) (C : Addr) (cl : List (Str × Addr)) (fp : List Addr), PI (X.blk s H scope (compEnvC scope cl C X.env) fp) tg1 iter1 (rdIt g W0 (denI (callAt p lv) p.gv it1))
  pg1 : ∀ (s : Shared) (H : Hp) (C : Addr) (cl : List (Str × Addr)) (fp : List Addr), PG (X.blk s H scope (compEnvC scope cl C X.env) fp) tg1 (rdG g t1)
  pt1 : ∀ (s : Shared) (H : Hp) (C : Addr) (cl : List (Str × Addr)) (fp : List Addr), PTs (X.blk s H scope (compEnvC scope cl C X.env) fp) ifs1 (rdT g W0 (denC (callAt p lv) p.gv cnd1))
  fs1 : ∀ env x, foldedSetIterable iter1 env x = pure x
theorem lc2P_mk (c : Cok g T p lv X W cd) {mu : Bool} {elt : RE} {t : Dn.T} {it : RI} {cnd : RO} {t1 : Dn.T} {it1 : RI} {cnd1 : RO} {own own1 : List Nat} {e : Expr} (h : chkE T cd (.lc2 mu elt t it cnd t1 it1 cnd1 own own1) e = true)
    (hI : ∀ {tg iter}, chkI T cd it tg iter = true → PI X tg iter (rdIt g W (denI (callAt p lv) p.gv it)))
    (hC : ∀ {X' cd' ifs}, Cok g T p lv X' W0 cd' → chkC T cd' cnd ifs = true → PTs X' ifs (rdT g W0 (denC (callAt p lv) p.gv cnd)))
    (hE : ∀ {X' cd' ee}, Cok g T p lv X' W0 cd' → chkE T cd' elt ee = true → PE X' ee (rdE g W0 (den (callAt p lv) p.gv elt)))
    (hI1 : ∀ {X' cd' tg iter}, Cok g T p lv X' W0 cd' → chkI T cd' it1 tg iter = true → PI X' tg iter (rdIt g W0 (denI (callAt p lv) p.gv it1)))
    (hC1 : ∀ {X' cd' ifs}, Cok g T p lv X' W0 cd' → chkC T cd' cnd1 ifs = true → PTs X' ifs (rdT g W0 (denC (callAt p lv) p.gv cnd1))) :
    ∃ ee tg iter ifs tg1 iter1 ifs1 scope pos, e = .ListComp ee [⟨tg, iter, ifs, 0⟩, ⟨tg1, iter1, ifs1, 0⟩] scope pos ∧ Lc2P g p lv elt t it cnd t1 it1 cnd1 own own1 X W ee tg iter ifs tg1 iter1 ifs1 scope (ownS cd own) := by
  unfold chkE at h
  split at h
  · rename_i ee tg iter ifs as tg1 iter1 ifs1 as1 scope pos
    obtain ⟨h, k6⟩ := and3 h
    obtain ⟨h, k5⟩ := and3 h
    obtain ⟨h, k4⟩ := and3 h
    obtain ⟨h, k3⟩ := and3 h
    obtain ⟨h, k2⟩ := and3 h
    obtain ⟨h, k1⟩ := and3 h
    obtain ⟨h, h8⟩ := and3 h
    obtain ⟨h, h7⟩ := and3 h
    obtain ⟨h, h6⟩ := and3 h
    obtain ⟨h, h5⟩ := and3 h
    obtain ⟨h, h4⟩ := and3 h
    obtain ⟨h, h3⟩ := and3 h
    obtain ⟨h, h2⟩ := and3 h
    obtain ⟨h1, h0⟩ := and3 h
    have h1 := of_decide_eq_true h1
    have h0 := of_decide_eq_true h0
    subst h1 h0
    exact ⟨ee, tg, iter, ifs, tg1, iter1, ifs1, scope, pos, rfl, ⟨ownS_snd cd own, hI h2, blkB_ok c h3, fun i hi => of_decide_eq_true (List.all_eq_true.mp h4 i hi), fun s H C cl fp => g_ok c.blk h5, fun s H C cl fp => hC c.blk h6, fun s H C cl fp => hE c.blk h7, fold_ok h8⟩,
      fun i hi => of_decide_eq_true (List.all_eq_true.mp k1 i hi), fun i hi => of_decide_eq_true (List.all_eq_true.mp k2 i hi), fun s H C cl fp => hI1 c.blk k3, fun s H C cl fp => g_ok c.blk k4, fun s H C cl fp => hC1 c.blk k5, fun _ => fold_ok k6⟩
  · cases h
theorem Lc2P.rd (c : Cok g T p lv X W cd) {mu : Bool} {elt : RE} {t : Dn.T} {it : RI} {cnd : RO} {t1 : Dn.T} {it1 : RI} {cnd1 : RO} {own own1 : List Nat} {ee tg iter tg1 iter1 : Expr} {ifs ifs1 : List Expr} {scope : Scope} {ow : List (Str × Nat)} (L : Lc2P g p lv elt t it cnd t1 it1 cnd1 own own1 X W ee tg iter ifs tg1 iter1 ifs1 scope ow) {σ : L2.St} {H : Hp} {Q : VK}
    (h : rdE g W (den (callAt p lv) p.gv (.lc2 mu elt t it cnd t1 it1 cnd1 own own1)) σ H Q) : tLc2 (rdIt g W (denI (callAt p lv) p.gv it)) (rdG g t) (rdT g W0 (denC (callAt p lv) p.gv cnd)) (rdIt g W0 (denI (callAt p lv) p.gv it1)) (rdG g t1) (rdT g W0 (denC (callAt p lv) p.gv cnd1)) (rdE g W0 (den (callAt p lv) p.gv elt)) (ow.map (·.2)) own1 σ H Q := by
  rw [L.L.owe]
  exact e_lc2 c (mu := mu) L.L.ixs L.ixs1 h
theorem Lc2P.ev (c : Cok g T p lv X W cd) {mu : Bool} {elt : RE} {t : Dn.T} {it : RI} {cnd : RO} {t1 : Dn.T} {it1 : RI} {cnd1 : RO} {own own1 : List Nat} {ee tg iter tg1 iter1 : Expr} {ifs ifs1 : List Expr} {scope : Scope} {pos : Pos} {ow : List (Str × Nat)} (L : Lc2P g p lv elt t it cnd t1 it1 cnd1 own own1 X W ee tg iter ifs tg1 iter1 ifs1 scope ow) :
    PE X (.ListComp ee [⟨tg, iter, ifs, 0⟩, ⟨tg1, iter1, ifs1, 0⟩] scope pos) (rdE g W (den (callAt p lv) p.gv (.lc2 mu elt t it cnd t1 it1 cnd1 own own1))) :=
  (pe_lc2 c.calm c.nd L.L.pi L.L.ok (by rw [L.L.owe]; exact L.sub) L.L.pg L.L.pt L.pi1 L.pg1 L.pt1 L.L.pe L.L.fs L.fs1).imp fun σ H Q h => L.rd c h
theorem nil_of {l : RL} (h : chkL T cd l [] = true) : l = .nil := by
  cases l with
  | nil => rfl
  | cons _ _ => unfold chkL at h; cases h
  | star _ _ => unfold chkL at h; cases h
def hnB : List Expr → Bool
  | [] => true
  | a :: _ => noStar a
theorem hn_of {l : RL} {es : List Expr} {gv : Gv} {cl : Nat → List D → Mem → R D} (h : chkL T cd l es = true) (k : hnB es = true) : Hn (denL cl gv l) es := by
  cases es with
  | nil =>
    have := nil_of h
    subst this
    rfl
  | cons e es => exact k
theorem cst_int {i : Int} {k : Const} (h : cstOk (.int i) k = true) : k = .int i := by
  cases k <;> first
    | (rw [of_decide_eq_true h])
    | cases h
theorem denJ_str {cl : Nat → List D → Mem → R D} {gv : Gv} : ∀ {l : RL} {acc : Str} {δ : Sl} {m m' : Mem} {d : D}, denJ cl gv l acc δ m = .ok d m' → ∃ s, d = .p (.str s)
  | .nil, acc, δ, m, m', d, h => by unfold denJ at h; cases h; exact ⟨_, rfl⟩
  | .cons e l, acc, δ, m, m', d, h => by
    unfold denJ at h
    cases q : den cl gv e δ m with
    | ok x m1 =>
      rw [q] at h
      have h : (match addS acc x with | some acc => denJ cl gv l acc δ m1 | none => .no) = .ok d m' := h
      split at h
      · exact denJ_str (l := l) h
      · cases h
    | ex _ _ => rw [q] at h; cases h
    | no => rw [q] at h; cases h
  | .star _ _, _, _, _, _, _, h => by unfold denJ at h; cases h
theorem wall_pe {e : Expr} : PE X e (rdE g W fun _ _ => .no) := ⟨fun pins s σ H Q I ⟨δ, m, ρ, F, M, rs, P⟩ => P.elim⟩
/-- a dict comprehension's parts -/
theorem dcm_mk (c : Cok g T p lv X W cd) {t : Bool} {kx vx : RE} {tg : Dn.T} {it : RI} {cnd : RO} {own : List Nat} {e : Expr} (h : chkE T cd (.dcm t kx vx tg it cnd own) e = true)
    (hI : ∀ {tg iter}, chkI T cd it tg iter = true → PI X tg iter (rdIt g W (denI (callAt p lv) p.gv it)))
    (hC : ∀ {X' cd' ifs}, Cok g T p lv X' W0 cd' → chkC T cd' cnd ifs = true → PTs X' ifs (rdT g W0 (denC (callAt p lv) p.gv cnd)))
    (hK : ∀ {X' cd' ee}, Cok g T p lv X' W0 cd' → chkE T cd' kx ee = true → PE X' ee (rdE g W0 (den (callAt p lv) p.gv kx)))
    (hV : ∀ {X' cd' ee}, Cok g T p lv X' W0 cd' → chkE T cd' vx ee = true → PE X' ee (rdE g W0 (den (callAt p lv) p.gv vx))) :
    PE X e (rdE g W (den (callAt p lv) p.gv (.dcm t kx vx tg it cnd own))) ∧ plainT e = true := by
  unfold chkE at h
  split at h
  · rename_i ke ve tgx iter ifs as scope pos
    obtain ⟨h, h10⟩ := and3 h
    obtain ⟨h, h9⟩ := and3 h
    obtain ⟨h, h8⟩ := and3 h
    obtain ⟨h, h7⟩ := and3 h
    obtain ⟨h, h6⟩ := and3 h
    obtain ⟨h, h5⟩ := and3 h
    obtain ⟨h, h4⟩ := and3 h
    obtain ⟨h, h3⟩ := and3 h
    obtain ⟨h1, h2⟩ := and3 h
    have h2 := of_decide_eq_true h2
    have h1 : t = false := by cases t <;> first | rfl | cases h1
    subst h1 h2
    refine ⟨(pe_freeze (pe_dc c.calm c.nd (hI h3) (blkB_ok c h4) (fun s H C cl fp => g_ok c.blk h6) (fun s H C cl fp => hC c.blk h7) (fun s H C cl fp => hK c.blk h8) (fun s H C cl fp => hV c.blk h9) (fold_ok h10))).imp fun σ H Q h => ?_, rfl⟩
    refine e_dcm c (by rw [ownS_snd]; exact fun i hi => of_decide_eq_true (List.all_eq_true.mp h5 i hi)) ?_
    rw [ownS_snd]
    exact h
  · cases h
theorem plainT_noBool {e : Expr} (h : plainT e = true) : ∀ op l pos, e ≠ .BoolOp op l pos := fun op l pos z => by subst z; cases h
mutual
theorem sE : ∀ (re : RE) {X : Cx} {W : WX} {cd : Cd} (c : Cok g T p lv X W cd) {e : Expr}, chkE T cd re e = true → Ev g p lv re W X e
  | .var i, X, W, cd, c, e, h => by
    unfold chkE at h
    split at h
    · obtain ⟨h, h3⟩ := and3 h
      obtain ⟨h1, h2⟩ := and3 h
      refine .plain ?_ rfl
      exact e_var c (of_decide_eq_true h1) h2 h3
    · cases h
  | .cst x, X, W, cd, c, e, h => by
    unfold chkE at h
    split at h
    · refine .plain ?_ rfl
      exact e_cst h
    · cases h
  | .glo n, X, W, cd, c, e, h => by
    unfold chkE at h
    split at h
    · obtain ⟨h, h3⟩ := and3 h
      obtain ⟨h1, h2⟩ := and3 h
      refine .plain ?_ rfl
      exact e_glo c (of_decide_eq_true h1) h2 h3
    · cases h
  | .tup l, X, W, cd, c, e, h => by
    unfold chkE at h
    split at h
    · obtain ⟨h1, h2⟩ := and3 h
      refine .plain ?_ rfl
      exact e_tup (fun δ m xs m' e hp => by rw [len_den hp e]; exact Nat.le_trans (of_decide_eq_true h2) (by rw [PySem.sizeLine_eq]; decide)) (sL l c h1)
    · cases h
  | .lst mu l, X, W, cd, c, e, h => by
    unfold chkE at h
    split at h
    · obtain ⟨h1, h2⟩ := and3 h
      refine .plain ?_ rfl
      exact e_lst (fun δ m xs m' e hp => by rw [len_den hp e]; exact Nat.le_trans (of_decide_eq_true h2) (by rw [PySem.sizeLine_eq]; decide)) (sL l c h1)
    · cases h
  | .bin o a b, X, W, cd, c, e, h => by
    unfold chkE at h
    split at h
    · obtain ⟨h, h3⟩ := and3 h
      obtain ⟨h1, h2⟩ := and3 h
      have h1 := of_decide_eq_true h1
      subst h1
      refine .plain ?_ rfl
      exact e_bin c (sE a c h2).pe (sE b c h3).pe
    · cases h
  | .neg a, X, W, cd, c, e, h => by
    unfold chkE at h
    split at h
    · obtain ⟨h1, h2⟩ := and3 h
      have h1 := of_decide_eq_true h1
      subst h1
      refine .plain ?_ rfl
      exact e_neg (sE a c h2).pe
    · cases h
  | .cmp o a b, X, W, cd, c, e, h => by
    unfold chkE at h
    split at h
    · obtain ⟨h, h4⟩ := and3 h
      obtain ⟨h, h3⟩ := and3 h
      obtain ⟨h1, h2⟩ := and3 h
      have h1 := of_decide_eq_true h1
      subst h1
      refine ⟨?_, fun _ => ?_, fun _ _ _ z => by cases z⟩
      · exact e_cmp c (sE a c h2).pe (sE b c h3).pe h4
      · exact t_cmp c (sE a c h2).pe (sE b c h3).pe h4
    · cases h
  | .cmp2 o o' a b d, X, W, cd, c, e, h => by
    unfold chkE at h
    split at h
    · obtain ⟨h, h6⟩ := and3 h
      obtain ⟨h, h5⟩ := and3 h
      obtain ⟨h, h4⟩ := and3 h
      obtain ⟨h, h3⟩ := and3 h
      obtain ⟨h1, h2⟩ := and3 h
      have h1 := of_decide_eq_true h1
      have h2 := of_decide_eq_true h2
      subst h1 h2
      refine ⟨?_, fun _ => ?_, fun _ _ _ z => by cases z⟩
      · exact e_cmp2 c (sE a c h3).pe (sE b c h4).pe (sE d c h5).pe h6
      · exact t_cmp2 c (sE a c h3).pe (sE b c h4).pe (sE d c h5).pe h6
    · cases h
  | .and a b, X, W, cd, c, e, h => by
    unfold chkE at h
    split at h
    · rename_i op x y l pos
      obtain ⟨h, h5⟩ := and3 h
      obtain ⟨h, h4⟩ := and3 h
      obtain ⟨h, h3⟩ := and3 h
      obtain ⟨h1, h2⟩ := and3 h
      have h1 := of_decide_eq_true h1
      subst h1
      have ea := sE a c h2
      have eb := sE b c h4
      have kp : PE X (.BoolOp .And (y :: l) pos) (rdE g W (den (callAt p lv) p.gv b)) := by
        cases l with
        | nil => exact pe_one eb.pe
        | cons z l => exact eb.pe
      have kw : PW X (.BoolOp .And (y :: l) pos) (rdT g W fun δ m => (den (callAt p lv) p.gv b δ m).bind asB) := by
        cases l with
        | nil => exact pw_and1 (eb.pt h5)
        | cons z l => exact eb.pw _ _ _ rfl
      have w := t_and (pos := pos) (ea.pt h3) kw
      refine ⟨?_, fun _ => ?_, fun _ _ _ z => ?_⟩
      · exact e_and ea.pe kp
      · exact w.pt
      · exact w
    · cases h
  | .or a b, X, W, cd, c, e, h => by
    unfold chkE at h
    split at h
    · rename_i op x y l pos
      obtain ⟨h, h5⟩ := and3 h
      obtain ⟨h, h4⟩ := and3 h
      obtain ⟨h, h3⟩ := and3 h
      obtain ⟨h1, h2⟩ := and3 h
      have h1 := of_decide_eq_true h1
      subst h1
      have ea := sE a c h2
      have eb := sE b c h4
      have kp : PE X (.BoolOp .Or (y :: l) pos) (rdE g W (den (callAt p lv) p.gv b)) := by
        cases l with
        | nil => exact pe_one eb.pe
        | cons z l => exact eb.pe
      have kw : PW X (.BoolOp .Or (y :: l) pos) (rdT g W fun δ m => (den (callAt p lv) p.gv b δ m).bind asB) := by
        cases l with
        | nil => exact pw_or1 (eb.pt h5)
        | cons z l => exact eb.pw _ _ _ rfl
      have w := t_or (pos := pos) (ea.pt h3) kw
      refine ⟨?_, fun _ => ?_, fun _ _ _ z => ?_⟩
      · exact e_or ea.pe kp
      · exact w.pt
      · exact w
    · cases h
  | .not a, X, W, cd, c, e, h => by
    unfold chkE at h
    split at h
    · obtain ⟨h, h3⟩ := and3 h
      obtain ⟨h1, h2⟩ := and3 h
      have h1 := of_decide_eq_true h1
      subst h1
      have ea := sE a c h2
      refine ⟨?_, fun _ => ?_, fun _ _ _ z => by cases z⟩
      · exact e_not ea.pe
      · exact t_not (ea.pt h3)
    · cases h
  | .ite d a b, X, W, cd, c, e, h => by
    unfold chkE at h
    split at h
    · obtain ⟨h, h4⟩ := and3 h
      obtain ⟨h, h3⟩ := and3 h
      obtain ⟨h1, h2⟩ := and3 h
      refine ⟨?_, fun z => (by cases z), fun _ _ _ z => (by cases z)⟩
      exact e_ite ((sE d c h1).pt h2) (sE a c h3).pe (sE b c h4).pe
    · cases h
  | .isi a one l, X, W, cd, c, e, h => by
    unfold chkE at h
    split at h
    · rename_i f fp x t pos
      obtain ⟨h, h5⟩ := and3 h
      obtain ⟨h, h4⟩ := and3 h
      obtain ⟨h, h3⟩ := and3 h
      obtain ⟨h1, h2⟩ := and3 h
      have h1 := of_decide_eq_true h1
      subst h1
      refine .plain ?_ rfl
      split at h5
      · split at h5
        · exact e_isi1 c h2 (sE a c h3).pe h4 h5
        · cases h5
      · split at h5
        · obtain ⟨h5, h7⟩ := and3 h5
          obtain ⟨h5, h6⟩ := and3 h5
          exact e_isiT c h2 (sE a c h3).pe h4 (fun z => by subst z; cases h6) (of_decide_eq_true h5) h7
        · cases h5
    · cases h
  | .ix a b, X, W, cd, c, e, h => by
    unfold chkE at h
    split at h
    · obtain ⟨h, h3⟩ := and3 h
      obtain ⟨h1, h2⟩ := and3 h
      refine .plain ?_ rfl
      exact e_ix c (sE a c h1).pe (sE b c h2).pe h3
    · cases h
  | .sl a lo hi, X, W, cd, c, e, h => by
    unfold chkE at h
    split at h
    · obtain ⟨h, h3⟩ := and3 h
      obtain ⟨h1, h2⟩ := and3 h
      refine .plain ?_ rfl
      exact e_sl c (sE a c h1).pe (sO lo c h2) (sO hi c h3)
    · cases h
  | .call f l, X, W, cd, c, e, h => by
    unfold chkE at h
    split at h
    · rename_i x np es pos
      obtain ⟨h, h5⟩ := and3 h
      obtain ⟨h, h4⟩ := and3 h
      obtain ⟨h, h3⟩ := and3 h
      obtain ⟨h1, h2⟩ := and3 h
      refine .plain ?_ rfl
      cases es with
      | nil =>
        have : l = .nil := by
          cases l with
          | nil => rfl
          | cons _ _ => unfold chkL at h4; cases h4
          | star _ _ => unfold chkL at h4; cases h4
        subst this
        exact e_call0 c (of_decide_eq_true h1) h2 h3
      | cons a es => exact e_call c (of_decide_eq_true h1) h2 h3 (sL l c h4) h5
    · cases h
  | .callK f l kl pm, X, W, cd, c, e, h => by
    unfold chkE at h
    split at h
    · rename_i x np es kws pos
      obtain ⟨h, h9⟩ := and3 h
      obtain ⟨h, h8⟩ := and3 h
      obtain ⟨h, h7⟩ := and3 h
      obtain ⟨h, h6⟩ := and3 h
      obtain ⟨h, h5⟩ := and3 h
      obtain ⟨h, h4⟩ := and3 h
      obtain ⟨h, h3⟩ := and3 h
      obtain ⟨h1, h2⟩ := and3 h
      refine .plain ?_ rfl
      split at h9
      · rename_i ks eks
        obtain ⟨h9, h10⟩ := and3 h9
        have h9 := of_decide_eq_true h9
        have h10 := of_decide_eq_true h10
        cases es with
        | nil =>
          have : l = .nil := by
            cases l with
            | nil => rfl
            | cons _ _ => unfold chkL at h4; cases h4
            | star _ _ => unfold chkL at h4; cases h4
          subst this
          exact e_callK0 c (of_decide_eq_true h1) h9 h2 h3 (sK kl c h7) eks fun δ m xs m' q => (len_den h8 q).trans h10
        | cons a es => exact e_callK c (of_decide_eq_true h1) h9 h2 h3 (sL l c h4) (sK kl c h7) h5 eks (fun δ m xs m' q => len_den h6 q) fun δ m xs m' q => (len_den h8 q).trans h10
      · cases h9
    · cases h
  | .bcl f l, X, W, cd, c, e, h => by
    unfold chkE at h
    split at h
    · obtain ⟨h, h4⟩ := and3 h
      obtain ⟨h, h3⟩ := and3 h
      obtain ⟨h1, h2⟩ := and3 h
      have h4' := h4
      rw [List.all_cons] at h4'
      refine .plain ?_ rfl
      exact e_bcl c (of_decide_eq_true h1) h2 (sL l c h3) (and3 h4').1 (and3 h4').2
    · cases h
  | .bmt f a l, X, W, cd, c, e, h => by
    unfold chkE at h
    split at h
    · rename_i o x ap es pos
      obtain ⟨h, h7⟩ := and3 h
      obtain ⟨h, h6⟩ := and3 h
      obtain ⟨h, h5⟩ := and3 h
      obtain ⟨h, h4⟩ := and3 h
      obtain ⟨h, h3⟩ := and3 h
      obtain ⟨h1, h2⟩ := and3 h
      refine .plain ?_ rfl
      cases es with
      | nil =>
        rw [nil_of h4]
        exact e_bmt0 c (of_decide_eq_true h1) (sE a c h2).pe h3 h7
      | cons y es => exact e_bmt c (of_decide_eq_true h1) (sE a c h2).pe (sL l c h4) h5 (of_decide_eq_true h6) h3 h7
    · cases h
  | .lc mu elt t it cnd own, X, W, cd, c, e, h => by
    obtain ⟨ee, tg, iter, ifs, scope, pos, rfl, L⟩ := lcP_mk c h (fun q => sI it c q) (fun c' q => sC cnd c' q) (fun c' q => (sE elt c' q).pe)
    exact .plain (L.ev c) rfl
  | .dnew t, X, W, cd, c, e, h => by
    unfold chkE at h
    split at h
    · refine .plain ?_ rfl
      cases t with
      | false =>
        refine pe_dnewK.imp fun σ H Q ⟨δ, m, ρ, F, M, rs, P⟩ q hq => ?_
        obtain ⟨x1, M1, r1⟩ := step_new (o := .dct []) (ho := .dK []) M hq ⟨Nat.zero_le _, trivial⟩
        exact P _ _ _ _ x1 M1 r1
      | true =>
        refine pe_dnewT.imp fun σ H Q ⟨δ, m, ρ, F, M, rs, P⟩ q hq => ?_
        obtain ⟨x1, M1, r1⟩ := step_new (o := .dcT []) (ho := .dT []) M hq ⟨Nat.zero_le _, trivial⟩
        exact P _ _ _ _ x1 M1 r1
    · cases h
  | .disp l, X, W, cd, c, e, h => by
    unfold chkE at h
    split at h
    · rename_i ks vs pos
      obtain ⟨h, h3⟩ := and3 h
      obtain ⟨h1, h2⟩ := and3 h
      refine .plain ?_ rfl
      obtain ⟨trs, p1, p2⟩ := sP l c (pos := pos) h1
      have h3' := of_decide_eq_true h3
      exact (pe_freeze (pe_disp p1 h3'.1 h3'.2.1 (fun z => by subst z; cases h2) h3'.2.2)).imp fun σ H Q h => e_disp p2 h
    · cases h
  | .dzip a b, X, W, cd, c, e, h => by
    unfold chkE at h
    split at h
    · obtain ⟨h, h8⟩ := and3 h
      obtain ⟨h, h7⟩ := and3 h
      obtain ⟨h, h6⟩ := and3 h
      obtain ⟨h, h5⟩ := and3 h
      obtain ⟨h, h4⟩ := and3 h
      obtain ⟨h, h3⟩ := and3 h
      obtain ⟨h1, h2⟩ := and3 h
      have h1 := of_decide_eq_true h1
      have h2 := of_decide_eq_true h2
      subst h1 h2
      refine .plain ?_ rfl
      exact e_dzip c h3 h4 (sE a c h5).pe h6 (sE b c h7).pe h8
    · cases h
  | .lc2 mu elt t it cnd t1 it1 cnd1 own own1, X, W, cd, c, e, h => by
    obtain ⟨ee, tg, iter, ifs, tg1, iter1, ifs1, scope, pos, rfl, L⟩ := lc2P_mk c h (fun q => sI it c q) (fun c' q => sC cnd c' q) (fun c' q => (sE elt c' q).pe) (fun c' q => sI it1 c' q) (fun c' q => sC cnd1 c' q)
    exact .plain (L.ev c) rfl
  | .frz a, X, W, cd, c, e, h => by
    unfold chkE at h
    obtain ⟨h1, h2⟩ := and3 h
    refine .plain ?_ h2
    exact e_frz (sE a c h1).pe
  | .fld a f, X, W, cd, c, e, h => by
    unfold chkE at h
    split at h
    · obtain ⟨h, h3⟩ := and3 h
      obtain ⟨h1, h2⟩ := and3 h
      refine .plain ?_ rfl
      exact e_fld c (of_decide_eq_true h1) (sE a c h2).pe h3
    · cases h
  | .prop a n, X, W, cd, c, e, h => by
    unfold chkE at h
    split at h
    · obtain ⟨h, h3⟩ := and3 h
      obtain ⟨h1, h2⟩ := and3 h
      refine .plain ?_ rfl
      exact e_prop c (of_decide_eq_true h1) (sE a c h2).pe h3
    · cases h
  | .meth a n l, X, W, cd, c, e, h => by
    unfold chkE at h
    split at h
    · rename_i o x ap es pos
      obtain ⟨h, h7⟩ := and3 h
      obtain ⟨h, h6⟩ := and3 h
      obtain ⟨h, h5⟩ := and3 h
      obtain ⟨h, h4⟩ := and3 h
      obtain ⟨h, h3⟩ := and3 h
      obtain ⟨h1, h2⟩ := and3 h
      refine .plain ?_ rfl
      cases es with
      | nil =>
        rw [nil_of h4]
        exact e_meth0 c (of_decide_eq_true h1) (sE a c h2).pe h3 h7
      | cons y es => exact e_meth c (of_decide_eq_true h1) (sE a c h2).pe (sL l c h4) h5 (of_decide_eq_true h6) h3 h7
    · cases h
  | .make k l, X, W, cd, c, e, h => by
    unfold chkE at h
    split at h
    · rename_i y np es pos
      obtain ⟨h, h5⟩ := and3 h
      obtain ⟨h, h4⟩ := and3 h
      obtain ⟨h, h3⟩ := and3 h
      obtain ⟨h1, h2⟩ := and3 h
      refine .plain ?_ rfl
      exact e_make c (of_decide_eq_true h1) h2 h3 (sL l c h4) (hn_of h4 (by cases es <;> exact h5))
    · cases h
  | .makeV i k l, X, W, cd, c, e, h => by
    unfold chkE at h
    split at h
    · rename_i y np es pos
      obtain ⟨h, h5⟩ := and3 h
      obtain ⟨h, h4⟩ := and3 h
      obtain ⟨h, h3⟩ := and3 h
      obtain ⟨h1, h2⟩ := and3 h
      refine .plain ?_ rfl
      exact e_makeV c (of_decide_eq_true h1) h2 h3 (sL l c h4) (hn_of h4 (by cases es <;> exact h5))
    · cases h
  | .ccon k n, X, W, cd, c, e, h => by
    unfold chkE at h
    split at h
    · obtain ⟨h, h4⟩ := and3 h
      obtain ⟨h, h3⟩ := and3 h
      obtain ⟨h1, h2⟩ := and3 h
      refine .plain ?_ rfl
      exact e_ccon c (of_decide_eq_true h1) (of_decide_eq_true h2) h3 h4
    · cases h
  | .smeth k n l, X, W, cd, c, e, h => by
    unfold chkE at h
    split at h
    · obtain ⟨h, h8⟩ := and3 h
      obtain ⟨h, h7⟩ := and3 h
      obtain ⟨h, h6⟩ := and3 h
      obtain ⟨h, h5⟩ := and3 h
      obtain ⟨h, h4⟩ := and3 h
      obtain ⟨h, h3⟩ := and3 h
      obtain ⟨h1, h2⟩ := and3 h
      refine .plain ?_ rfl
      exact e_smeth c (of_decide_eq_true h1) (of_decide_eq_true h2) h3 h4 (sL l c h5) h6 (of_decide_eq_true h7) h8
    · cases h
  | .smethK f k n kl pm, X, W, cd, c, e, h => by
    unfold chkE at h
    split at h
    · obtain ⟨h, h9⟩ := and3 h
      obtain ⟨h, h8⟩ := and3 h
      obtain ⟨h, h7⟩ := and3 h
      obtain ⟨h, h6⟩ := and3 h
      obtain ⟨h, h5⟩ := and3 h
      obtain ⟨h, h4⟩ := and3 h
      obtain ⟨h, h3⟩ := and3 h
      obtain ⟨h1, h2⟩ := and3 h
      refine .plain ?_ rfl
      split at h7
      · rename_i ks eks
        obtain ⟨h7, h10⟩ := and3 h7
        have h10 := of_decide_eq_true h10
        exact e_smethK c (of_decide_eq_true h1) (of_decide_eq_true h2) (of_decide_eq_true h7) h3 h4 (sK kl c h5) eks (fun δ m xs m' q => (len_den h6 q).trans h10) (of_decide_eq_true h8) h9
      · cases h7
    · cases h
  | .fmt a, X, W, cd, c, e, h => by
    unfold chkE at h
    split at h
    · obtain ⟨h1, h2⟩ := and3 h
      have h1 := of_decide_eq_true h1
      subst h1
      refine .plain ?_ rfl
      exact e_fmt (sE a c h2).pe
    · cases h
  | .fstr l, X, W, cd, c, e, h => by
    unfold chkE at h
    split at h
    · obtain ⟨h1, h2⟩ := and3 h
      refine .plain ?_ rfl
      obtain ⟨ts, j1, j2⟩ := sJ l c h2 h1
      refine (pe_joined j1).imp fun σ H Q ⟨δ, m, ρ, F, M, rs, P⟩ => j2 Str.empty (Nat.zero_le _) σ H _ ⟨δ, m, ρ, F, M, rs, ?_⟩
      have P : PostD g ρ F m H (denJ (callAt p lv) p.gv l Str.empty δ m) Q (WE W σ) := P
      cases q : denJ (callAt p lv) p.gv l Str.empty δ m with
      | no => rw [q] at P; exact P.elim
      | ex x m' => rw [q] at P; exact P
      | ok d m' =>
        rw [q] at P
        obtain ⟨z, rfl⟩ := denJ_str q
        intro v H' ρ' F' x1 M1 r1
        have r1' := r1
        cases r1 with | str _ _ => exact ⟨z, rfl, P _ _ _ _ x1 M1 r1'⟩
    · cases h
  | .rev a, X, W, cd, c, e, h => by
    unfold chkE at h
    split at h
    · rename_i k _ _ _ _ _
      obtain ⟨h, h3⟩ := and3 h
      obtain ⟨h1, h2⟩ := and3 h
      have h1 := of_decide_eq_true h1
      subst h1
      refine .plain ?_ rfl
      rw [cst_int h2]
      exact e_rev (sE a c h3).pe
    · cases h
  | .dcm t kx vx tg it cnd own, X, W, cd, c, e, h => by
    obtain ⟨h1, h2⟩ := dcm_mk c h (fun q => sI it c q) (fun c' q => sC cnd c' q) (fun c' q => (sE kx c' q).pe) (fun c' q => (sE vx c' q).pe)
    exact .plain h1 h2
  | .wall, X, W, cd, c, e, h => by
    unfold chkE at h
    refine .plain ?_ h
    exact wall_pe
  | .exn k l, X, W, cd, c, e, h => by
    unfold chkE at h
    split at h
    · rename_i y np es pos
      obtain ⟨h, h5⟩ := and3 h
      obtain ⟨h, h4⟩ := and3 h
      obtain ⟨h, h3⟩ := and3 h
      obtain ⟨h1, h2⟩ := and3 h
      refine .plain ?_ rfl
      cases es with
      | nil =>
        rw [nil_of h4]
        exact e_exn0 c (of_decide_eq_true h1) h2 h3
      | cons a es =>
        have h5 : (noStar a && es.all noStar) = true := h5
        exact e_exn1 c (of_decide_eq_true h1) h2 h3 (sL l c h4) (star_cons (and3 h5).1) (plain_any (and3 h5).2)
    · cases h
  | .exnK k a, X, W, cd, c, e, h => by
    unfold chkE at h
    split at h
    · obtain ⟨h, h5⟩ := and3 h
      obtain ⟨h, h4⟩ := and3 h
      obtain ⟨h, h3⟩ := and3 h
      obtain ⟨h1, h2⟩ := and3 h
      refine .plain ?_ rfl
      exact e_exnK c (of_decide_eq_true h1) (of_decide_eq_true h2) h3 h4 (sE a c h5).pe
    · cases h
  | .xfld a f, X, W, cd, c, e, h => by
    unfold chkE at h
    split at h
    · obtain ⟨h, h3⟩ := and3 h
      obtain ⟨h1, h2⟩ := and3 h
      refine .plain ?_ rfl
      exact e_xfld c (of_decide_eq_true h1) (sE a c h2).pe h3
    · cases h
  | .xis a t, X, W, cd, c, e, h => by
    unfold chkE at h
    split at h
    · obtain ⟨h, h7⟩ := and3 h
      obtain ⟨h, h6⟩ := and3 h
      obtain ⟨h, h5⟩ := and3 h
      obtain ⟨h, h4⟩ := and3 h
      obtain ⟨h, h3⟩ := and3 h
      obtain ⟨h1, h2⟩ := and3 h
      have h1 := of_decide_eq_true h1
      subst h1
      refine .plain ?_ rfl
      exact e_xis c h2 (sE a c h3).pe h4 (of_decide_eq_true h5) h6 h7
    · cases h
theorem sJ : ∀ (l : RL) {X : Cx} {W : WX} {cd : Cd} (c : Cok g T p lv X W cd) {es : List Expr}, l.plain = true → chkL T cd l es = true → ∃ ts, PJ X es ts ∧ ∀ acc, acc.length ≤ sizeLine → ∀ σ H Q, rdE g W (denJ (callAt p lv) p.gv l acc) σ H (fun x H1 => ∃ out, x = .str out ∧ Q out H1) → tJs ts acc σ H Q
  | .nil, X, W, cd, c, es, hp, h => by
    unfold chkL at h
    cases es with
    | nil => exact ⟨[], .nil, fun acc ha σ H Q ⟨δ, m, ρ, F, M, rs, P⟩ => by
        obtain ⟨out, e, q⟩ := P (.str acc) H ρ F Ext.refl M (RP.str _ ha)
        cases e
        exact q⟩
    | cons _ _ => cases h
  | .cons a l, X, W, cd, c, es, hp, h => by
    unfold chkL at h
    split at h
    · obtain ⟨h, h3⟩ := and3 h
      obtain ⟨h1, h2⟩ := and3 h
      obtain ⟨ts, j1, j2⟩ := sJ l c hp h3
      exact ⟨_, .cons (sE a c h1).pe j1, fun acc ha σ H Q q => js_rd (rj := denJ (callAt p lv) p.gv l) j2 q⟩
    · cases h
  | .star _ _, X, W, cd, c, es, hp, h => by cases hp
theorem sL : ∀ (l : RL) {X : Cx} {W : WX} {cd : Cd} (c : Cok g T p lv X W cd) {es : List Expr}, chkL T cd l es = true → PA X es (rdA g W (denL (callAt p lv) p.gv l))
  | .nil, X, W, cd, c, es, h => by
    unfold chkL at h
    cases es with
    | nil => exact a_nil
    | cons _ _ => cases h
  | .cons a l, X, W, cd, c, es, h => by
    unfold chkL at h
    split at h
    · obtain ⟨h, h3⟩ := and3 h
      obtain ⟨h1, h2⟩ := and3 h
      exact a_cons (sE a c h1).pe (sL l c h3) h2
    · cases h
  | .star a l, X, W, cd, c, es, h => by
    unfold chkL at h
    split at h
    · obtain ⟨h1, h2⟩ := and3 h
      exact a_star c (sE a c h1).pe (sL l c h2)
    · cases h
theorem sP : ∀ (l : RL) {X : Cx} {W : WX} {cd : Cd} (c : Cok g T p lv X W cd) {pos : Pos} {ks : List (Option Expr)} {vs : List Expr}, chkP T cd l ks vs = true →
    ∃ trs, PPs X pos ks vs trs ∧ ∀ σ H (Q : List (V × V) → Hp → Prop), rdA g W (denL (callAt p lv) p.gv l) σ H (fun us H1 => ∀ ps, us = flatVV ps → Q ps H1) → tPairs trs σ H Q
  | .nil, X, W, cd, c, pos, ks, vs, h => by
    unfold chkP at h
    obtain ⟨h1, h2⟩ := and3 h
    have h1 := List.isEmpty_iff.mp h1
    have h2 := List.isEmpty_iff.mp h2
    subst h1 h2
    exact ⟨[], pps_nil, fun σ H Q ⟨δ, m, ρ, F, M, rs, P⟩ => P.val (rel := RDs g) (v := []) M trivial [] rfl⟩
  | .cons a (.cons b l), X, W, cd, c, pos, ks, vs, h => by
    unfold chkP at h
    split at h
    · obtain ⟨h, h3⟩ := and3 h
      obtain ⟨h1, h2⟩ := and3 h
      obtain ⟨trs, p1, p2⟩ := sP l c (pos := pos) h3
      refine ⟨_, pps_cons (sE a c h1).pe (sE b c h2).pe p1, fun σ H Q q => ?_⟩
      refine rdX.bind (rb := fun x δ m => (denL (callAt p lv) p.gv (.cons b l) δ m).bind fun xs m => .ok (x :: xs) m) q fun δ d m ρ F v H' M rs r P => ?_
      have P : Post g (RDs g) ρ F m H' (((den (callAt p lv) p.gv b δ m).bind fun y m => (denL (callAt p lv) p.gv l δ m).bind fun ys m => .ok (y :: ys) m).bind fun xs m => .ok (d :: xs) m) _ (WE W σ) := P
      refine ⟨δ, m, ρ, F, M, rs, ?_⟩
      rw [bind_bind] at P
      refine Post.bind P fun d2 m2 v2 H2 ρ2 F2 x2 M2 r2 P2 => ?_
      refine p2 σ H2 _ ⟨δ, m2, ρ2, F2, M2, rs.mono x2, ?_⟩
      rw [bind_bind] at P2
      refine Post.bind P2 fun ds m3 ws H3 ρ3 F3 x3 M3 r3 P3 ps ep => ?_
      exact P3 (v :: v2 :: ws) _ _ _ Ext.refl M3 ⟨(r.mono x2).mono x3, r2.mono x3, r3⟩ ((v, v2) :: ps) (by rw [ep]; rfl)
    · cases h
  | .cons a .nil, X, W, cd, c, pos, ks, vs, h => by unfold chkP at h; cases h
  | .cons a (.star b l), X, W, cd, c, pos, ks, vs, h => by unfold chkP at h; cases h
  | .star a l, X, W, cd, c, pos, ks, vs, h => by unfold chkP at h; cases h
theorem sK : ∀ (l : RL) {X : Cx} {W : WX} {cd : Cd} (c : Cok g T p lv X W cd) {es : List Keyword}, chkK T cd l es = true → PK X es (rdA g W (denL (callAt p lv) p.gv l))
  | .nil, X, W, cd, c, es, h => by
    unfold chkK at h
    cases es with
    | nil => exact k_nil
    | cons _ _ => cases h
  | .cons a l, X, W, cd, c, es, h => by
    unfold chkK at h
    split at h
    · obtain ⟨h1, h2⟩ := and3 h
      exact k_cons (sE a c h1).pe (sK l c h2)
    · cases h
  | .star _ _, X, W, cd, c, es, h => by
    unfold chkK at h
    cases h
theorem sO : ∀ (o : RO) {X : Cx} {W : WX} {cd : Cd} (c : Cok g T p lv X W cd) {e : Option Expr}, chkO T cd o e = true → L2.PO X e (rdO g W (denO (callAt p lv) p.gv o))
  | .none, X, W, cd, c, e, h => by
    unfold chkO at h
    cases e with
    | none => exact o_none
    | some _ => cases h
  | .some a, X, W, cd, c, e, h => by
    unfold chkO at h
    split at h
    · exact o_some (sE a c h).pe
    · cases h
theorem sC : ∀ (o : RO) {X : Cx} {W : WX} {cd : Cd} (c : Cok g T p lv X W cd) {es : List Expr}, chkC T cd o es = true → PTs X es (rdT g W (denC (callAt p lv) p.gv o))
  | .none, X, W, cd, c, es, h => by
    unfold chkC at h
    cases es with
    | nil =>
      exact ⟨fun pins s σ H Q I ⟨δ, m, ρ, F, M, rs, P⟩ => pts_nil.run pins s σ H Q I (P.val M rfl)⟩
    | cons _ _ => cases h
  | .some a, X, W, cd, c, es, h => by
    unfold chkC at h
    split at h
    · obtain ⟨h1, h2⟩ := and3 h
      exact pts_one ((sE a c h1).pt h2)
    · cases h
theorem sI : ∀ (o : RI) {X : Cx} {W : WX} {cd : Cd} (c : Cok g T p lv X W cd) {tg e : Expr}, chkI T cd o tg e = true → PI X tg e (rdIt g W (denI (callAt p lv) p.gv o))
  | .seq a, X, W, cd, c, tg, e, h => by
    unfold chkI at h
    exact i_seq c (sE a c h).pe
  | .rng a, X, W, cd, c, tg, e, h => by
    unfold chkI at h
    split at h
    · obtain ⟨h, h4⟩ := and3 h
      obtain ⟨h, h3⟩ := and3 h
      obtain ⟨h1, h2⟩ := and3 h
      have h1 := of_decide_eq_true h1
      subst h1
      exact i_rng c h2 (sE a c h3).pe h4
    · cases h
  | .rng2 a b, X, W, cd, c, tg, e, h => by
    unfold chkI at h
    split at h
    · obtain ⟨h, h6⟩ := and3 h
      obtain ⟨h, h5⟩ := and3 h
      obtain ⟨h, h4⟩ := and3 h
      obtain ⟨h, h3⟩ := and3 h
      obtain ⟨h1, h2⟩ := and3 h
      have h1 := of_decide_eq_true h1
      subst h1
      exact i_rng2 c h2 (sE a c h3).pe h4 (sE b c h5).pe h6
    · cases h
  | .zip l, X, W, cd, c, tg, e, h => by
    unfold chkI at h
    split at h
    · obtain ⟨h, h4⟩ := and3 h
      obtain ⟨h, h3⟩ := and3 h
      obtain ⟨h1, h2⟩ := and3 h
      have h1 := of_decide_eq_true h1
      subst h1
      rw [List.all_cons] at h4
      exact i_zip c h2 (sL l c h3) (and3 h4).1 (and3 h4).2
    · cases h
  | .keys a, X, W, cd, c, tg, e, h => by
    unfold chkI at h
    exact i_keys c (sE a c h).pe
  | .enum a, X, W, cd, c, tg, e, h => by
    unfold chkI at h
    split at h
    · obtain ⟨h, h4⟩ := and3 h
      obtain ⟨h, h3⟩ := and3 h
      obtain ⟨h1, h2⟩ := and3 h
      have h1 := of_decide_eq_true h1
      subst h1
      exact i_enum c h2 (sE a c h3).pe h4
    · cases h
end
end
end Dn

/-! Dn, part O: statements. -/
namespace Dn
open PySem PySem.Spec PyProof.Rows L2
def PostS (g : Gn) (ρ : Rho) (F : Hp) (m : Mem) (H : Hp) (r : S) (D : Ends) (W : WX) : Prop := match r with
  | .ok f δ m' => ∀ σ H' ρ' F', Ext ρ F m H ρ' F' m' H' → MRel g ρ' F' m' H' → RSl g ρ' F' m'.length δ σ → (match f with
    | .nx => D.nx σ H'
    | .br => D.bk σ H'
    | .ct => D.ct σ H'
    | .rt d => ∀ v, RD g ρ' F' m'.length d v → D.rt v H')
  | .ex x δ m' => ∀ σ cls dd H' ρ' F', Ext ρ F m H ρ' F' m' H' → MRel g ρ' F' m' H' → RSl g ρ' F' m'.length δ σ → RX g F' x cls dd H' → W cls dd σ H'
  | .no => False
def rdS (g : Gn) (W : WX) (r : Sl → Mem → S) : TS := fun D σ H => ∃ δ m ρ F, MRel g ρ F m H ∧ RSl g ρ F m.length δ σ ∧ PostS g ρ F m H (r δ m) D W
section
variable {g : Gn} {W : WX} {X : Cx} {T : Tb} {p : Pg} {lv : Nat} {cd : Cd} {ρ ρ1 : Rho} {F F1 H H1 : Hp} {m m1 : Mem} {D : Ends}
theorem PostS.on {r : S} (a : Ext ρ F m H ρ1 F1 m1 H1) (h : PostS g ρ F m H r D W) : PostS g ρ1 F1 m1 H1 r D W := by
  cases r with
  | ok f δ m' => exact fun σ H' ρ' F' x M rs => h σ H' ρ' F' (a.trans x) M rs
  | ex x δ m' => exact fun σ cls dd H' ρ' F' e M rs q => h σ cls dd H' ρ' F' (a.trans e) M rs q
  | no => exact h.elim
theorem PostS.next {δ : Sl} {σ : L2.St} (h : PostS g ρ F m H (.ok .nx δ m) D W) (M : MRel g ρ F m H) (rs : RSl g ρ F m.length δ σ) : D.nx σ H := h σ H ρ F Ext.refl M rs
/-- an expression ahead -/
theorem PostS.to {α γ : Type} {rel : Rho → Hp → Nat → α → γ → Prop} {r : R α} {δ : Sl} {f : α → Mem → S} {Q : γ → Hp → Prop} {σ : L2.St} (rs : RSl g ρ F m.length δ σ) (h : PostS g ρ F m H (r.toS δ f) D W)
    (k : ∀ d m' v H' ρ' F', Ext ρ F m H ρ' F' m' H' → MRel g ρ' F' m' H' → RSl g ρ' F' m'.length δ σ → rel ρ' F' m'.length d v → PostS g ρ' F' m' H' (f d m') D W → Q v H') : Post g rel ρ F m H r Q (WE W σ) := by
  cases r with
  | ok d m' => exact fun v H' ρ' F' x M r => k d m' v H' ρ' F' x M (rs.mono x) r (PostS.on x h)
  | ex x m' => exact fun cls dd H' ρ' F' e M q => h σ cls dd H' ρ' F' e M (rs.mono e) q
  | no => exact h.elim
theorem rdS.to {α γ : Type} {rel : Rho → Hp → Nat → α → γ → Prop} {ra : Sl → Mem → R α} {f : α → Sl → Mem → S} {Q : γ → Hp → Prop} {σ : L2.St} {H : Hp} (h : rdS g W (fun δ m => (ra δ m).toS δ fun d m => f d δ m) D σ H)
    (k : ∀ δ d m ρ F v H', MRel g ρ F m H' → RSl g ρ F m.length δ σ → rel ρ F m.length d v → PostS g ρ F m H' (f d δ m) D W → Q v H') : rdX g rel W ra σ H Q := by
  obtain ⟨δ, m, ρ, F, M, rs, P⟩ := h
  exact ⟨δ, m, ρ, F, M, rs, PostS.to rs P fun d m' v H' ρ' F' x M' rs' r P' => k δ d m' ρ' F' v H' M' rs' r P'⟩
def noComp : Expr → Bool
  | .ListComp .. => false
  | .SetComp .. => false
  | .DictComp .. => false
  | _ => true
theorem sw_none {e : Expr} {t : Option Expr} {l : Nat} {env : Env} (h : noComp e = true) : swapsWith e t l env = pure false := by cases e <;> first | rfl | cases h
theorem sw_tgt {e t : Expr} {l : Nat} {env : Env} (h : (match t with | .Name .. => false | _ => true) = true) : swapsWithSole [t] e l env = pure false := by
  show swapsWith e (some t) l env = pure false
  cases t <;> first | (exact absurd h Bool.false_ne_true) | (cases e <;> rfl)
/-! ### sequences -/
theorem b_nil : PSs X [] (rdS g W fun δ m => .ok .nx δ m) := pss_nil.imp fun D σ H ⟨δ, m, ρ, F, M, rs, P⟩ => P.next M rs
theorem b_cons {s : Stmt} {l : List Stmt} {ra rb : Sl → Mem → S} (h1 : PS X s (rdS g W ra)) (h2 : PSs X l (rdS g W rb)) :
    PSs X (s :: l) (rdS g W fun δ m => match ra δ m with | .ok .nx δ m => rb δ m | r => r) := by
  refine (pss_cons h1 h2).imp fun D σ H ⟨δ, m, ρ, F, M, rs, P⟩ => ⟨δ, m, ρ, F, M, rs, ?_⟩
  dsimp only at P
  cases q : ra δ m with
  | no => rw [q] at P; exact P.elim
  | ex x δ' m' => rw [q] at P; exact P
  | ok f δ' m' =>
    rw [q] at P
    cases f with
    | nx => exact fun σ' H' ρ' F' x M' rs' => ⟨δ', m', ρ', F', M', rs', PostS.on x P⟩
    | rt d => exact P
    | br => exact P
    | ct => exact P
/-! ### statements -/
theorem s_ex {e : Expr} {pos : Pos} {ra : Sl → Mem → R Dn.D} (he : PE X e (rdE g W ra)) (hn : noComp e = true) : PS X (.Expr e pos) (rdS g W fun δ m => (trimU m (ra δ m)).toS δ fun _ m => .ok .nx δ m) := by
  refine (ps_expr he (sw_none hn)).imp fun D σ H ⟨δ, m, ρ, F, M, rs, P⟩ => ⟨δ, m, ρ, F, M, rs, ?_⟩
  have P : PostS g ρ F m H ((trimU m (ra δ m)).toS δ fun _ m => .ok .nx δ m) D W := P
  exact trimU_post M (PostS.to (rel := RD g) (Q := fun _ => D.nx σ) rs P fun d m' v H' ρ' F' x M' rs' r P' => P'.next M' rs')
theorem s_ret {e : Expr} {pos : Pos} {ra : Sl → Mem → R Dn.D} (he : PE X e (rdE g W ra)) : PS X (.Return (some e) pos) (rdS g W fun δ m => (ra δ m).toS δ fun d m => .ok (.rt d) δ m) :=
  (ps_ret he).imp fun D σ H h => rdS.to h fun δ d m ρ F v H' M rs r P => P σ H' ρ F Ext.refl M rs v r
theorem s_retN {pos : Pos} : PS X (.Return none pos) (rdS g W fun δ m => .ok (.rt (.p .non)) δ m) :=
  ps_retN.imp fun D σ H ⟨δ, m, ρ, F, M, rs, P⟩ => P σ H ρ F Ext.refl M rs .non RP.non
theorem s_pas {pos : Pos} : PS X (.Pass pos) (rdS g W fun δ m => .ok .nx δ m) := ps_pass.imp fun D σ H ⟨δ, m, ρ, F, M, rs, P⟩ => P.next M rs
theorem s_brk {pos : Pos} : PS X (.Break pos) (rdS g W fun δ m => .ok .br δ m) := ps_break.imp fun D σ H ⟨δ, m, ρ, F, M, rs, P⟩ => P σ H ρ F Ext.refl M rs
theorem s_cnt {pos : Pos} : PS X (.Continue pos) (rdS g W fun δ m => .ok .ct δ m) := ps_continue.imp fun D σ H ⟨δ, m, ρ, F, M, rs, P⟩ => P σ H ρ F Ext.refl M rs
theorem s_set (c : Cok g T p lv X W cd) {i : Nat} {x : Str} {e : Expr} {pos np : Pos} {ra : Sl → Mem → R Dn.D} (hi : cd.N[i]? = some x) (hx : isLoc cd x = true) (he : PE X e (rdE g W ra)) (hs : swapsWith e (some (.Name x np)) pos.line X.env = pure false) :
    PS X (.Assign [.Name x np] e pos) (rdS g W fun δ m => (ra δ m).toS δ fun d m => .ok .nx (δ.set i (some d)) m) := by
  obtain ⟨l1, l2⟩ := c.loc hx
  exact (ps_set c.nd (by rw [c.N]; exact hi) l1 he hs l2).imp fun D σ H h => rdS.to h fun δ d m ρ F v H' M rs r P => P.next M (rs.set i r)
theorem s_setLc (c : Cok g T p lv X W cd) {i : Nat} {x : Str} {mu : Bool} {elt : RE} {t : Dn.T} {it : RI} {cnd : RO} {own : List Nat} {ee tg iter : Expr} {ifs : List Expr} {scope : Scope} {ow : List (Str × Nat)} {pos np cp : Pos} (hi : cd.N[i]? = some x) (hx : isL cd x = true)
    (L : LcP g p lv elt t it cnd own X W ee tg iter ifs scope ow) (hsw : swapsWith (.ListComp ee [⟨tg, iter, ifs, 0⟩] scope cp) (some (.Name x np)) pos.line X.env = pure true) :
    PS X (.Assign [.Name x np] (.ListComp ee [⟨tg, iter, ifs, 0⟩] scope cp) pos) (rdS g W fun δ m => (den (callAt p lv) p.gv (.lc mu elt t it cnd own) δ m).toS δ fun d m => .ok .nx (δ.set i (some d)) m) := by
  refine (ps_setLc c.calm c.nd (by rw [c.N]; exact hi) (c.lcl hx) hsw L.pi L.ok L.pg L.pt L.pe L.fs).imp fun D σ H h => ?_
  refine L.rd c (mu := mu) ?_
  exact rdS.to h fun δ d m ρ F v H' M rs r P => P.next M (rs.set i r)
theorem s_setLc2 (c : Cok g T p lv X W cd) {i : Nat} {x : Str} {mu : Bool} {elt : RE} {t : Dn.T} {it : RI} {cnd : RO} {t1 : Dn.T} {it1 : RI} {cnd1 : RO} {own own1 : List Nat} {ee tg iter tg1 iter1 : Expr} {ifs ifs1 : List Expr} {scope : Scope} {ow : List (Str × Nat)} {pos np cp : Pos} (hi : cd.N[i]? = some x) (hx : isL cd x = true)
    (L : Lc2P g p lv elt t it cnd t1 it1 cnd1 own own1 X W ee tg iter ifs tg1 iter1 ifs1 scope ow) (hsw : swapsWith (.ListComp ee [⟨tg, iter, ifs, 0⟩, ⟨tg1, iter1, ifs1, 0⟩] scope cp) (some (.Name x np)) pos.line X.env = pure true) :
    PS X (.Assign [.Name x np] (.ListComp ee [⟨tg, iter, ifs, 0⟩, ⟨tg1, iter1, ifs1, 0⟩] scope cp) pos) (rdS g W fun δ m => (den (callAt p lv) p.gv (.lc2 mu elt t it cnd t1 it1 cnd1 own own1) δ m).toS δ fun d m => .ok .nx (δ.set i (some d)) m) := by
  refine (ps_setLc2 c.calm c.nd (by rw [c.N]; exact hi) (c.lcl hx) hsw L.L.pi L.L.ok (by rw [L.L.owe]; exact L.sub) L.L.pg L.L.pt L.pi1 L.pg1 L.pt1 L.L.pe L.L.fs L.fs1).imp fun D σ H h => ?_
  refine L.rd c (mu := mu) ?_
  exact rdS.to h fun δ d m ρ F v H' M rs r P => P.next M (rs.set i r)
theorem s_asg {t : Dn.T} {tg e : Expr} {pos : Pos} {ra : Sl → Mem → R Dn.D} (he : PE X e (rdE g W ra)) (hg : PG X tg (rdG g t)) (hs : swapsWithSole [tg] e pos.line X.env = pure false) (hw : swappedStores [tg] e X.env = pure none) (h1 : (assignEach [tg] X.env).map (·.2) = [assign tg X.env]) :
    PS X (.Assign [tg] e pos) (rdS g W fun δ m => (ra δ m).toS δ fun d m => match asgT t d m δ with | some δ' => .ok .nx δ' m | none => .no) := by
  refine (ps_asg he hg hs hw h1).imp fun D σ H h => rdS.to h fun δ d m ρ F v H' M rs r P => ?_
  split at P
  · rename_i δ' e1
    exact ⟨d, δ, m, ρ, F, δ', M, r, rs, e1, fun σ' rs' _ => P.next M rs'⟩
  · exact P.elim
theorem s_ite {c : Expr} {a b : List Stmt} {pos : Pos} {rc : Sl → Mem → R Dn.D} {ra rb : Sl → Mem → S} (hc : PT X c (rdT g W fun δ m => (rc δ m).bind asB)) (ha : PSs X a (rdS g W ra)) (hb : PSs X b (rdS g W rb)) :
    PS X (.If c a b pos) (rdS g W fun δ m => ((rc δ m).bind asB).toS δ fun k m => if k then ra δ m else rb δ m) := by
  refine (ps_if hc ha hb).imp fun D σ H h => rdS.to h fun δ d m ρ F v H' M rs r P => ?_
  subst r
  cases v with
  | true => exact ⟨δ, m, ρ, F, M, rs, P⟩
  | false => exact ⟨δ, m, ρ, F, M, rs, P⟩
theorem iset_set {D0 : Ends} {d e y : Dn.D} {δ : Sl} {σ : L2.St} {o i v : V} (M : MRel g ρ F m H) (rs : RSl g ρ F m.length δ σ) (rd : RD g ρ F m.length d o) (re : RD g ρ F m.length e i) (ry : RD g ρ F m.length y v)
    (P : PostS g ρ F m H ((isetS d e y m).toS δ fun _ m => .ok .nx δ m) D W) : rdI g o i v H fun H3 => D.nx σ H3 :=
  ⟨d, e, y, m, ρ, F, WE W σ, M, rd, re, ry, PostS.to rs P fun _ m' _ H' ρ' F' x M' rs' _ P' => P'.next M' rs'⟩
theorem as_sub {o i : Expr} {sp : Pos} {env : Env} (hn : noSl i = true) : ∀ v, assign (.Subscript o i sp) env v = (do
      let ov ← holding [v] (eval o env)
      let iv ← holding [v, ov] (eval i env)
      standAt sp
      holding [v, ov, iv] (setItem ov iv v)
      release [v, ov, iv] []) := by
  intro v
  cases i <;> first | rfl | cases hn
theorem aug_sub {i : Expr} (hn : noSl i = true) : ∀ ov iv new, augStore i ov iv new = (do holding [new, ov, iv] (setItem ov iv new); release [new, ov, iv] []; pure .next) := by
  intro ov iv new
  cases i <;> first | rfl | cases hn
theorem s_iset (hu : X.A.units + 65 < cLine) {a b e : Expr} {pos sp : Pos} {ra rb re : Sl → Mem → R Dn.D} (ha : PE X a (rdE g W ra)) (hb : PE X b (rdE g W rb)) (hn : noSl b = true) (he : PE X e (rdE g W re)) :
    PS X (.Assign [.Subscript a b sp] e pos) (rdS g W fun δ m => (re δ m).toS δ fun v m => (ra δ m).toS δ fun x m => (rb δ m).toS δ fun y m => (isetS x y v m).toS δ fun _ m => .ok .nx δ m) := by
  refine (ps_asg he (pg_sub ha hb (iset_ok (g := g) hu) (as_sub hn)) (sw_tgt rfl) rfl rfl).imp fun D σ H h => rdS.to h fun δ d m ρ F v H' M rs r P => ?_
  refine ⟨δ, m, ρ, F, M, rs, PostS.to rs P fun x m2 x' H2 ρ2 F2 x2 M2 rs2 r2 P2 => ⟨δ, m2, ρ2, F2, M2, rs2, PostS.to rs2 P2 fun y m3 y' H3 ρ3 F3 x3 M3 rs3 r3 P3 => ?_⟩⟩
  exact iset_set (D0 := D) M3 rs3 (r2.mono x3) r3 ((r.mono x2).mono x3) P3
theorem aug_ok (o : BOp) : PIp X (bO o) (rd2 g (augS o)) := by
  rintro pins s σ H x y v u Q I rx ry ⟨d, e, m, ρ, F, E, M, hd, he, h⟩
  unfold augS at h
  split at h
  · cases hd; cases he
    exact iop_add pins s σ H _ _ v u Q I rx ry ⟨_, _, rfl, rfl, h.val M (RP.int _)⟩
  · cases hd; cases he
    exact iop_sub pins s σ H _ _ v u Q I rx ry ⟨_, _, rfl, rfl, h.val M (RP.int _)⟩
  · cases hd; cases he
    split at h
    · rename_i c
      refine iop_mul pins s σ H _ _ v u Q I rx ry ⟨_, _, rfl, rfl, ?_, h.val M (RP.int _)⟩
      unfold mulOk at c
      simpa [CMul] using c
    · exact h.elim
  · exact h.elim
theorem s_aug (c : Cok g T p lv X W cd) {i : Nat} {x : Str} {o : BOp} {e : Expr} {pos np : Pos} {re : Sl → Mem → R Dn.D} (hi : cd.N[i]? = some x) (hx : isLoc cd x = true) (he : PE X e (rdE g W re)) :
    PS X (.AugAssign (.Name x np) (bO o) e pos) (rdS g W fun δ m => match δ[i]? with
      | some (some x) => (re δ m).toS δ fun y m => (augS o x y m).toS δ fun z m => .ok .nx (δ.set i (some z)) m
      | _ => .no) := by
  obtain ⟨l1, l2⟩ := c.loc hx
  refine (ps_aug c.nd (by rw [c.N]; exact hi) l1 he (aug_ok (g := g) o) l2).imp fun D σ H ⟨δ, m, ρ, F, M, rs, P⟩ => ?_
  dsimp only at P
  split at P
  · rename_i d ed
    obtain ⟨v, ev, r⟩ := rs.get i d ed
    refine ⟨v, ev, δ, m, ρ, F, M, rs, PostS.to rs P fun y m2 y' H2 ρ2 F2 x2 M2 rs2 r2 P2 => ?_⟩
    exact ⟨d, y, m2, ρ2, F2, WE W σ, M2, r.mono x2, r2, PostS.to rs2 P2 fun z m3 z' H3 ρ3 F3 x3 M3 rs3 r3 P3 => P3.next M3 (rs3.set i r3)⟩
  · exact P.elim
theorem get_ok : PGet X (rd2 g getS) := by
  rintro pins s σ H o i ov iv Q I ro ri ⟨d, e, m, ρ, F, E, M, hd, he, h⟩
  unfold getS at h
  split at h
  · rename_i n k
    cases he
    split at h
    · rename_i l el
      split at h
      · rename_i x ex
        obtain ⟨ho, rfl, h1, h2⟩ := M.look el hd
        obtain ⟨vs, rfl, h3⟩ := rmo_lst h2
        obtain ⟨v, ev, rv⟩ := atI_rel h3 ex
        cases ro
        obtain ⟨t, rfl⟩ := ri
        obtain ⟨its, r, pl, hz⟩ := I.list (SqL.of h1)
        obtain ⟨j, k1, k2, k3, k4, k5⟩ := atI_get ev
        obtain ⟨w, ew, rw'⟩ := r.get k2
        have hl := r.length
        have hn := line63
        have fin : EP X pins σ Q w s := ⟨v, H, I, rw', h.val M rv⟩
        by_cases h0 : 0 ≤ k
        · have hj : k.toNat = j := by
            rw [seqIndex_of h0 k5] at k1
            exact Option.some.inj k1
          exact wpAny_getItem_list pl.isList h0 (by omega) (by rw [hj]; simpa using ew) fin
        · have hj : (k + (its.toArray.size : Int)).toNat = j := by
            rw [seqIndex_neg (by omega) k4] at k1
            rw [List.size_toArray, ← hl]
            exact Option.some.inj k1
          exact wpAny_getItem_list_neg pl.isList (by omega) (by rw [List.size_toArray] <;> omega) (by omega) (by rw [hj]; simpa using ew) fin
      · exact h.elim
    · exact h.elim
  · exact h.elim
theorem s_iaug (c : Cok g T p lv X W cd) {o : BOp} {a b e : Expr} {pos sp : Pos} {ra rb re : Sl → Mem → R Dn.D} (ha : PE X a (rdE g W ra)) (hb : PE X b (rdE g W rb)) (hn : noSl b = true) (he : PE X e (rdE g W re)) :
    PS X (.AugAssign (.Subscript a b sp) (bO o) e pos) (rdS g W fun δ m => (ra δ m).toS δ fun u m => (rb δ m).toS δ fun i m => (getS u i m).toS δ fun x m => (re δ m).toS δ fun y m => (augS o x y m).toS δ fun z m => (isetS u i z m).toS δ fun _ m => .ok .nx δ m) := by
  refine (ps_augS ha hb (get_ok (g := g)) he (aug_ok (g := g) o) (iset_ok (g := g) c.hu) (aug_sub hn)).imp fun D σ H h => rdS.to h fun δ u m ρ F u' H' M rs ru P => ?_
  refine ⟨δ, m, ρ, F, M, rs, PostS.to rs P fun i m2 i' H2 ρ2 F2 x2 M2 rs2 ri P2 => ?_⟩
  refine ⟨u, i, m2, ρ2, F2, WE W σ, M2, ru.mono x2, ri, PostS.to rs2 P2 fun x m3 x' H3 ρ3 F3 x3 M3 rs3 rx P3 => ?_⟩
  refine ⟨δ, m3, ρ3, F3, M3, rs3, PostS.to rs3 P3 fun y m4 y' H4 ρ4 F4 x4 M4 rs4 ry P4 => ?_⟩
  refine ⟨x, y, m4, ρ4, F4, WE W σ, M4, rx.mono x4, ry, PostS.to rs4 P4 fun z m5 z' H5 ρ5 F5 x5 M5 rs5 rz P5 => ?_⟩
  exact iset_set (D0 := D) M5 rs5 ((((ru.mono x2).mono x3).mono x4).mono x5) (((ri.mono x3).mono x4).mono x5) rz P5
theorem s_whl {c : Expr} {b : List Stmt} {pos : Pos} {rc : Sl → Mem → R Dn.D} {rb : Sl → Mem → S} (hp : PassesOwn (model X.prog X.w) X.A X.env X.xe) (hc : PT X c (rdT g W fun δ m => (rc δ m).bind asB)) (hb : PSs X b (rdS g W rb)) (n : Nat) :
    PS X (.While c b [] pos) (rdS g W fun δ m => whlRun (fun δ m => (rc δ m).bind asB) rb n δ m) := by
  refine (ps_while hp hc hb).imp fun D σ H h => ⟨fun n => rdS g W (whlRun (fun δ m => (rc δ m).bind asB) rb n) D, ⟨n, h⟩, fun n σ H h => ?_⟩
  cases n with
  | zero => obtain ⟨δ, m, ρ, F, M, rs, P⟩ := h; exact P.elim
  | succ n =>
    refine rdS.to (rel := RB') h fun δ d m ρ F v H' M rs r P => ?_
    subst r
    cases v with
    | false => exact P.next M rs
    | true =>
      rw [if_pos rfl]
      refine ⟨fun σ' H' => rdS g W (whlRun (fun δ m => (rc δ m).bind asB) rb n) D σ' H', fun σ' H' q => ⟨n, Nat.lt_succ_self n, q⟩, δ, m, ρ, F, M, rs, ?_⟩
      simp only [if_true] at P
      cases q : rb δ m with
      | no => rw [q] at P; exact P.elim
      | ex x δ' m' => rw [q] at P; exact P
      | ok f δ' m' =>
        rw [q] at P
        cases f with
        | nx => exact fun σ' H' ρ' F' x M' rs' => ⟨δ', m', ρ', F', M', rs', PostS.on x P⟩
        | ct => exact fun σ' H' ρ' F' x M' rs' => ⟨δ', m', ρ', F', M', rs', PostS.on x P⟩
        | br => exact fun σ' H' ρ' F' x M' rs' => P σ' H' ρ' F' x M' rs'
        | rt d => exact P
theorem s_for {t : Dn.T} {tg iter : Expr} {b : List Stmt} {pos : Pos} {rt : Sl → Mem → R Its} {rb : Sl → Mem → S} (hp : PassesOwn (model X.prog X.w) X.A X.env X.xe) (hc : X.calm = true) (hi : PI X tg iter (rdIt g W rt)) (hg : PG X tg (rdG g t)) (hb : PSs X b (rdS g W rb)) (hs : noSet iter = true) :
    PS X (.For tg iter b [] pos) (rdS g W fun δ m => (rt δ m).toS δ fun its m => forRun (fun x δ m => match asgT t x m δ with | some δ' => rb δ' m | none => .no) its its.l δ m) := by
  refine (ps_for hp hc hi hg hb (fold_ok hs)).imp fun D σ H h => rdS.to h fun δ its m ρ F J H1 M rs RJ P => ?_
  generalize hf : (fun x δ m => match asgT t x m δ with | some δ' => rb δ' m | none => .no) = f at P
  let Iv : Nat → L2.St → Hp → Prop := fun i σ' Hc => ∃ δ' m' ρ' F', On ρ F m.length ρ' F' m' ∧ MRel g ρ' F' m' Hc ∧ RSl g ρ' F' m'.length δ' σ' ∧ PostS g ρ' F' m' Hc (forRun f its (its.l.drop i) δ' m') D W
  refine ⟨fun i n σ' Hc => n = its.l.length - i ∧ i ≤ its.l.length ∧ Iv i σ' Hc, ⟨_, rfl, Nat.zero_le _, δ, m, ρ, F, On.refl, M, rs, P⟩, ?_⟩
  rintro i n σ' Hc ⟨rfl, hi', δ', m', ρ', F', on, M1, rs1, P1⟩
  by_cases hlt : i < its.l.length
  · have hdrop : its.l.drop i = its.l[i] :: its.l.drop (i + 1) := List.drop_eq_getElem_cons hlt
    rw [hdrop] at P1
    unfold forRun at P1
    split at P1
    · rename_i held
      obtain ⟨go, yl⟩ := (RJ.2 ρ' F' m' Hc on M1 held i).1 its.l[i] (List.getElem?_eq_getElem hlt)
      refine .inr ⟨go, Iv (i + 1), fun σ2 H' q => ⟨_, by omega, rfl, hlt, q⟩, fun xv H' y => ?_⟩
      obtain ⟨F2, x2, M2, r2⟩ := yl xv H' y
      have P2 := PostS.on x2 P1
      have on2 := on.ext x2
      rw [← hf] at P2
      dsimp only at P2
      cases ea : asgT t its.l[i] m' δ' with
      | none => rw [ea] at P2; exact P2.elim
      | some δ2 =>
        rw [ea] at P2
        dsimp only at P2
        refine ⟨its.l[i], δ', m', ρ', F2, δ2, M2, r2, rs1.mono x2, ea, fun σ2 rs2 _ => ⟨δ2, m', ρ', F2, M2, rs2, ?_⟩⟩
        rw [hf] at P2
        cases q : rb δ2 m' with
        | no => rw [q] at P2; exact P2.elim
        | ex x δ3 m3 => rw [q] at P2; exact P2
        | ok fl δ3 m3 =>
          rw [q] at P2
          cases fl with
          | nx => exact fun σ3 H3 ρ3 F3 x3 M3 rs3 => ⟨δ3, m3, ρ3, F3, on2.ext x3, M3, rs3, PostS.on x3 P2⟩
          | ct => exact fun σ3 H3 ρ3 F3 x3 M3 rs3 => ⟨δ3, m3, ρ3, F3, on2.ext x3, M3, rs3, PostS.on x3 P2⟩
          | br => exact fun σ3 H3 ρ3 F3 x3 M3 rs3 => P2 σ3 H3 ρ3 F3 x3 M3 rs3
          | rt d => exact P2
    · exact P1.elim
  · have e : i = its.l.length := by omega
    subst e
    rw [List.drop_length] at P1
    unfold forRun at P1
    split at P1
    · rename_i held
      exact .inl ⟨(RJ.2 ρ' F' m' Hc on M1 held _).2 (List.getElem?_eq_none (Nat.le_refl _)), P1.next M1 rs1⟩
    · exact P1.elim
/-! ### fields -/
theorem setF_rel (inj : ∀ a b, g.fN a = g.fN b → a = b) {k f : Nat} {y : Dn.D} {v : V} (r : RD g ρ F k y v) : ∀ {l : List (Nat × Dn.D)} {fs : List (Str × V)}, RDf g ρ F k l fs → RDf g ρ F k (setF l f y) (putF (g.fN f) v fs)
  | [], [], _ => ⟨⟨rfl, r⟩, trivial⟩
  | (n, x) :: l, (s, u) :: fs, h => by
    obtain ⟨⟨h1, h2⟩, h3⟩ := h
    dsimp only at h1 h2
    subst h1
    unfold setF putF
    by_cases e : n = f
    · subst e
      rw [if_pos rfl, if_pos rfl]
      exact ⟨⟨rfl, r⟩, h3⟩
    · rw [if_neg e, if_neg fun z => e (inj _ _ z)]
      exact ⟨⟨rfl, h2⟩, setF_rel inj r h3⟩
  | [], _ :: _, h => h.elim
  | _ :: _, [], h => h.elim
theorem setF_len {α : Type} {f : Nat} {y : α} : ∀ {l : List (Nat × α)}, (setF l f y).length ≤ l.length + 1
  | [] => Nat.le_refl _
  | (n, x) :: l => by
    unfold setF
    split
    · simp
    · simpa using setF_len (l := l)
theorem RDf.len {k : Nat} : ∀ {l : List (Nat × Dn.D)} {fs : List (Str × V)}, RDf g ρ F k l fs → l.length = fs.length
  | [], [], _ => rfl
  | _ :: _, _ :: _, h => congrArg Nat.succ (RDf.len h.2)
  | [], _ :: _, h => h.elim
  | _ :: _, [], h => h.elim
theorem s_fset (c : Cok g T p lv X W cd) {a v : Expr} {x : Str} {f : Nat} {pp pos : Pos} {ra rv : Sl → Mem → R Dn.D} (hx : T.fl f = some x) (ha : PE X a (rdE g W ra)) (hv : PE X v (rdE g W rv)) :
    PS X (.Assign [.Attribute a x pp] v pos) (rdS g W fun δ m => (rv δ m).toS δ fun v m => (ra δ m).toS δ fun x m => (fsetS p.gv f x v m).toS δ fun _ m => .ok .nx δ m) := by
  have ex := c.fl f x hx
  subst ex
  refine (ps_fld ha hv (by cases v <;> rfl)).imp fun D σ H h => rdS.to h fun δ y m ρ F yv H' M rs r P => ⟨δ, m, ρ, F, M, rs, PostS.to rs P fun d m2 dv H2 ρ2 F2 x2 M2 rs2 r2 P2 => ?_⟩
  unfold fsetS at P2
  split at P2
  · rename_i n
    split at P2
    · rename_i cn l q
      split at P2
      · rename_i hz
        obtain ⟨ho, rfl, h1, h2⟩ := M2.look q r2
        obtain ⟨dx, fs, rfl, hc, h3⟩ := rmo_ins h2
        obtain ⟨x3, M3⟩ := step_put (o' := .ins cn (setF l f y)) (ho := .ins (g.cA cn) dx (putF (g.fN f) yv fs)) M2 (get_some q) ⟨⟨by have := setF_len (f := f) (y := y) (l := l); omega, rfl, hc⟩, setF_rel c.kf.inj (r.mono x2) h3⟩
        refine ⟨_, _, dx, fs, rfl, h1, by rw [c.K]; exact c.kf.cls _ hc, c.fk _ _ hz.1, by have := RDf.len h3; omega, ?_⟩
        exact (PostS.on x3 P2).next M3 (rs2.mono x3)
      · exact P2.elim
    · exact P2.elim
  · exact P2.elim
end
end Dn

/-! Dn, part P: a, b = x, y; the check of statements is enough. -/
namespace Dn
open PySem PySem.Spec PyProof.Rows L2
section
variable {g : Gn} {W : WX} {X : Cx} {T : Tb} {p : Pg} {lv : Nat} {cd : Cd} {ρ ρ1 : Rho} {F F1 H H1 : Hp} {m m1 : Mem}
/-- an object that nobody knows -/
theorem step_alien {ho : HO} {a : Addr} (M : MRel g ρ F m H) (ha : H a = none) : Ext ρ F m H ρ F m (upd H a ho) ∧ MRel g ρ F m (upd H a ho) := by
  have fa := M.free ha
  refine ⟨⟨fun _ _ h => h, Nat.le_refl _, fun _ _ => rfl, fun _ h => h, fun k h l => absurd l.lt (Nat.not_lt.mpr h), fun b u h _ => by rw [upd_ne (ne_of_none h ha)]; exact h, fun b u h => ⟨u, by rw [upd_ne (ne_of_none h ha)]; exact h⟩, fun _ _ h => .inl h⟩, ⟨fun b u h => ?_, fun k u e => ?_, M.inj⟩⟩
  · rw [upd_ne (ne_of_none h fa)]; exact M.sub b u h
  · obtain ⟨f, ho', h1, h2⟩ := M.mem k u e
    exact ⟨f, ho', by rw [upd_ne (ne_of_none h1 ha)]; exact h1, h2⟩
def setsV (is : List Nat) (vs : List V) (σ : L2.St) : L2.St := (is.zip vs).foldl (fun σ p => σ.set p.1 (some p.2)) σ
theorem RSl.sets : ∀ {is : List Nat} {ds : List Dn.D} {vs : List V} {δ : Sl} {σ : L2.St}, RSl g ρ F m.length δ σ → RDs g ρ F m.length ds vs → RSl g ρ F m.length ((is.zip ds).foldl (fun δ p => δ.set p.1 (some p.2)) δ) (setsV is vs σ)
  | [], _, _, _, _, rs, _ => by simpa [setsV] using rs
  | _ :: _, [], [], _, _, rs, _ => by simpa [setsV] using rs
  | i :: is, d :: ds, v :: vs, δ, σ, rs, r => RSl.sets (is := is) (rs.set i r.1) r.2
  | _ :: _, [], _ :: _, _, _, _, r => r.elim
  | _ :: _, _ :: _, [], _, _, _, r => r.elim
def gNames (is : List Nat) : TGs := fun vs σ H Q => vs.length = is.length ∧ Q (setsV is vs σ) H
def namesOk (cd : Cd) : List Nat → List Expr → Bool
  | [], [] => true
  | i :: is, .Name x _ :: es => decide (cd.N[i]? = some x) && isLoc cd x && namesOk cd is es
  | _, _ => false
theorem names_ok (c : Cok g T p lv X W cd) : ∀ {is : List Nat} {es : List Expr}, namesOk cd is es = true → PGs X es (gNames is) ∧ es.all (fun e => match e with | .Name .. => true | .Tuple .. => true | _ => false) = true ∧ es.length = is.length
  | [], [], _ => ⟨pgs_nil.imp fun vs σ H Q ⟨h1, h2⟩ => by
      cases vs with
      | nil => exact ⟨rfl, h2⟩
      | cons _ _ => exact absurd h1 (by simp), rfl, rfl⟩
  | i :: is, .Name x pos :: es, h => by
    unfold namesOk at h
    obtain ⟨h, h3⟩ := and3 h
    obtain ⟨h1, h2⟩ := and3 h
    obtain ⟨k1, k2, k3⟩ := names_ok c h3
    obtain ⟨l1, l2⟩ := c.loc h2
    refine ⟨(pgs_cons (pg_name c.nd (by rw [c.N]; exact of_decide_eq_true h1) l1 l2) k1 rfl).imp fun vs σ H Q ⟨q1, q2⟩ => ?_, by rw [List.all_cons, k2]; rfl, by rw [List.length_cons, List.length_cons, k3]⟩
    cases vs with
    | nil => cases q1
    | cons v vs => exact ⟨v, vs, rfl, by simpa using q1, q2⟩
/-- .. by a tuple -/
theorem s_parT (c : Cok g T p lv X W cd) {is : List Nat} {ts vs : List Expr} {k1 k2 : Nat} {p1 p2 pos : Pos} {rl : Sl → Mem → R (List Dn.D)} (hn : namesOk cd is ts = true) (hz : is.length ≤ 100) (ha : PA X vs (rdA g W rl)) (hw : swappedStores [.Tuple ts k1 p1] (.Tuple vs k2 p2) X.env = pure none) :
    PS X (.Assign [.Tuple ts k1 p1] (.Tuple vs k2 p2) pos) (rdS g W fun δ m => (rl δ m).toS δ fun ds m => if ds.length = is.length then .ok .nx ((is.zip ds).foldl (fun δ p => δ.set p.1 (some p.2)) δ) m else .no) := by
  obtain ⟨n1, n2, n3⟩ := names_ok c hn
  obtain ⟨a1, a2⟩ := as_len (env := X.env) n2
  refine (ps_asg (pe_tup ha) (pg_tup c.calm n1 a1 a2) (sw_tgt rfl) hw rfl).imp fun D σ H h => rdS.to h fun δ ds m ρ F xs H' M rs r P => ?_
  split at P
  · rename_i hl
    have hl2 : xs.length = is.length := by rw [← r.length]; exact hl
    refine ⟨by rw [hl2]; exact Nat.le_trans hz (by decide), fun a ha => ⟨a, xs, rfl, SqT.of upd_same, by rw [hl2, n3], hl2, ?_⟩⟩
    obtain ⟨x1, M1⟩ := step_alien (ho := .tup xs) M ha
    exact P _ _ _ _ x1 M1 ((rs.sets r).mono x1)
  · exact P.elim
theorem s_par2 (c : Cok g T p lv X W cd) {i j : Nat} {x y : Str} {a b : Expr} {kt k2 : Nat} {px py pt pt2 pos : Pos} {rl : Sl → Mem → R (List Dn.D)} (hi : cd.N[i]? = some x) (hj : cd.N[j]? = some y) (hij : i ≠ j) (hx : isL cd x = true) (hy : isL cd y = true) (ha : PA X [a, b] (rdA g W rl))
    (hw : swappedStores [.Tuple [.Name x px, .Name y py] kt pt] (.Tuple [a, b] k2 pt2) X.env = pure (some [x, y])) :
    PS X (.Assign [.Tuple [.Name x px, .Name y py] kt pt] (.Tuple [a, b] k2 pt2) pos) (rdS g W fun δ m => (rl δ m).toS δ fun ds m => if ds.length = [i, j].length then .ok .nx (([i, j].zip ds).foldl (fun δ p => δ.set p.1 (some p.2)) δ) m else .no) := by
  refine (ps_par c.calm c.nd (by rw [c.N]; exact hi) (by rw [c.N]; exact hj) hij (c.lcl hx) (c.lcl hy) ha hw rfl).imp fun D σ H h => rdS.to h fun δ ds m ρ F xs H' M rs r P => ?_
  split at P
  · rename_i hl
    match ds, xs, r, hl with
    | [d, e], [v, w], r, _ => exact ⟨v, w, rfl, P.next M (rs.sets (is := [i, j]) r)⟩
  · exact P.elim
theorem s_par3 (c : Cok g T p lv X W cd) {i j l : Nat} {x y z : Str} {a b d : Expr} {kt k2 : Nat} {px py pz pt pt2 pos : Pos} {rl : Sl → Mem → R (List Dn.D)} (hi : cd.N[i]? = some x) (hj : cd.N[j]? = some y) (hk : cd.N[l]? = some z) (hij : i ≠ j) (hil : i ≠ l) (hjl : j ≠ l) (hx : isL cd x = true) (hy : isL cd y = true) (hz : isL cd z = true) (ha : PA X [a, b, d] (rdA g W rl))
    (hw : swappedStores [.Tuple [.Name x px, .Name y py, .Name z pz] kt pt] (.Tuple [a, b, d] k2 pt2) X.env = pure (some [x, y, z])) :
    PS X (.Assign [.Tuple [.Name x px, .Name y py, .Name z pz] kt pt] (.Tuple [a, b, d] k2 pt2) pos) (rdS g W fun δ m => (rl δ m).toS δ fun ds m => if ds.length = [i, j, l].length then .ok .nx (([i, j, l].zip ds).foldl (fun δ p => δ.set p.1 (some p.2)) δ) m else .no) := by
  refine (ps_par3 c.calm c.nd (by rw [c.N]; exact hi) (by rw [c.N]; exact hj) (by rw [c.N]; exact hk) hij hil hjl (c.lcl hx) (c.lcl hy) (c.lcl hz) ha hw rfl).imp fun D σ H h => rdS.to h fun δ ds m ρ F xs H' M rs r P => ?_
  split at P
  · rename_i hl
    match ds, xs, r, hl with
    | [d, e, f], [v, w, u], r, _ => exact ⟨v, w, u, rfl, P.next M (rs.sets (is := [i, j, l]) r)⟩
  · exact P.elim
/-! ### which way -/
def noSwap (cd : Cd) (ts vs : List Expr) : Bool := (ts.any fun t => match t with | .Name x _ => !isL cd x | _ => true) || vs.all (foldedForSure 8) || decide (3 < ts.length)
theorem isL_no (c : Cok g T p lv X W cd) {x : Str} (h : isL cd x = false) : (X.env.kindOf x == some NameKind.local) = false := by
  unfold isL at h
  unfold Env.kindOf
  rw [c.sc]
  cases q : cd.sc.names.lookup x with
  | none => rfl
  | some k =>
    rw [q] at h
    cases k <;> first | rfl | cases h
theorem isL_yes (c : Cok g T p lv X W cd) {x : Str} (h : isL cd x = true) : (X.env.kindOf x == some NameKind.local) = true := by
  have := c.lcl h
  unfold Env.kindOf
  rw [this]
  rfl
theorem noSwap_ok (c : Cok g T p lv X W cd) {ts vs : List Expr} {k1 k2 : Nat} {p1 p2 : Pos} (h : noSwap cd ts vs = true) : swappedStores [.Tuple ts k1 p1] (.Tuple vs k2 p2) X.env = pure none := by
  unfold swappedStores
  simp only [pure_bind]
  unfold noSwap at h
  split
  · rfl
  · rename_i z1
    split
    · rfl
    · split
      · rfl
      · rename_i z3
        split
        · rfl
        · rename_i z4
          exfalso
          rcases Bool.or_eq_true_iff.mp h with h | h
          · rcases Bool.or_eq_true_iff.mp h with h | h
            · apply z3
              rw [Bool.or_eq_true]
              left
              rw [bne_iff_ne]
              apply Nat.ne_of_lt
              rw [List.length_filterMap_lt_length_iff_exists]
              obtain ⟨t, ht, e⟩ := List.any_eq_true.mp h
              refine ⟨t, ht, ?_⟩
              cases t <;> first | rfl | skip
              rename_i x pos
              have := isL_no c (x := x) (by simpa using e)
              simp [this]
            · exact z4 h
          · apply z1
            have := of_decide_eq_true h
            have h2 : (ts.length == 2) = false := by simp; omega
            have h3 : (ts.length == 3) = false := by simp; omega
            rw [h2, h3]
            rfl
def swap2 (cd : Cd) (x y : Str) (px py : Pos) (a b : Expr) : Bool := isL cd x && isL cd y && decide (x ≠ y) && (py.line == px.line) && !(constantsAlone 8 a && constantsAlone 8 b) && !(foldedForSure 8 a && foldedForSure 8 b) && noStar a && noStar b && decide (cd.sc.kind = .function)
theorem noStar_m {a : Expr} (h : noStar a = true) : (match a with | .Starred .. => true | _ => false) = false := by cases a <;> first | rfl | cases h
theorem swap2_ok (c : Cok g T p lv X W cd) {x y : Str} {px py p1 p2 : Pos} {a b : Expr} {k1 k2 : Nat} (h : swap2 cd x y px py a b = true) : swappedStores [.Tuple [.Name x px, .Name y py] k1 p1] (.Tuple [a, b] k2 p2) X.env = pure (some [x, y]) := by
  unfold swap2 at h
  obtain ⟨h, h9⟩ := and3 h
  obtain ⟨h, h8⟩ := and3 h
  obtain ⟨h, h7⟩ := and3 h
  obtain ⟨h, h6⟩ := and3 h
  obtain ⟨h, h5⟩ := and3 h
  obtain ⟨h, h4⟩ := and3 h
  obtain ⟨h, h3⟩ := and3 h
  obtain ⟨h1, h2⟩ := and3 h
  have hb : X.env.blockKind = .function := by
    unfold Env.blockKind
    rw [c.sc, of_decide_eq_true h9]
    rfl
  have k1 := isL_yes c h1
  have k2 := isL_yes c h2
  have hxy : (x == y) = false := by simpa using of_decide_eq_true h3
  have hyx : (y == x) = false := by simpa using Ne.symm (of_decide_eq_true h3)
  unfold swappedStores
  simp only [pure_bind, hb, noStar_m h7, noStar_m h8, List.any_cons, List.any_nil, List.filterMap_cons, List.filterMap_nil, k1, k2, List.head?_cons, Option.map_some, Option.getD_some, Expr.pos, h4, beq_self_eq_true, Bool.and_true, if_true, List.all_cons, List.all_nil]
  have e1 : [x, y].eraseDups.length = 2 := by simp [List.eraseDups_cons, hxy, hyx]
  rw [if_neg (by simp), if_neg, if_neg (by rw [e1]; simp), if_neg (fun z => by rw [z] at h6; cases h6), if_neg (fun z => by rw [z] at h5; cases h5)]
  intro z
  rcases Bool.or_eq_true_iff.mp z with z | z
  · split at z
    · cases h7
    · cases z
  · rw [Bool.or_false] at z
    split at z
    · cases h8
    · cases z
def swap3 (cd : Cd) (x y z : Str) (px py pz : Pos) (a b d : Expr) : Bool := isL cd x && isL cd y && isL cd z && decide (x ≠ y) && decide (x ≠ z) && decide (y ≠ z) && (py.line == px.line) && (pz.line == px.line) && !(constantsAlone 8 a && (constantsAlone 8 b && constantsAlone 8 d)) && !(foldedForSure 8 a && (foldedForSure 8 b && foldedForSure 8 d)) && noStar a && noStar b && noStar d && decide (cd.sc.kind = .function)
theorem swap3_ok (c : Cok g T p lv X W cd) {x y z : Str} {px py pz p1 p2 : Pos} {a b d : Expr} {k1 k2 : Nat} (h : swap3 cd x y z px py pz a b d = true) : swappedStores [.Tuple [.Name x px, .Name y py, .Name z pz] k1 p1] (.Tuple [a, b, d] k2 p2) X.env = pure (some [x, y, z]) := by
  unfold swap3 at h
  obtain ⟨h, h14⟩ := and3 h
  obtain ⟨h, h13⟩ := and3 h
  obtain ⟨h, h12⟩ := and3 h
  obtain ⟨h, h11⟩ := and3 h
  obtain ⟨h, h10⟩ := and3 h
  obtain ⟨h, h9⟩ := and3 h
  obtain ⟨h, h8⟩ := and3 h
  obtain ⟨h, h7⟩ := and3 h
  obtain ⟨h, h6⟩ := and3 h
  obtain ⟨h, h5⟩ := and3 h
  obtain ⟨h, h4⟩ := and3 h
  obtain ⟨h, h3⟩ := and3 h
  obtain ⟨h1, h2⟩ := and3 h
  have hb : X.env.blockKind = .function := by
    unfold Env.blockKind
    rw [c.sc, of_decide_eq_true h14]
    rfl
  have k1 := isL_yes c h1
  have k2 := isL_yes c h2
  have k3 := isL_yes c h3
  have yx : (y == x) = false := by simpa using Ne.symm (of_decide_eq_true h4)
  have zx : (z == x) = false := by simpa using Ne.symm (of_decide_eq_true h5)
  have zy : (z == y) = false := by simpa using Ne.symm (of_decide_eq_true h6)
  unfold swappedStores
  simp only [pure_bind, hb, List.any_cons, List.any_nil, List.filterMap_cons, List.filterMap_nil, k1, k2, k3, List.head?_cons, Option.map_some, Option.getD_some, Expr.pos, h7, h8, beq_self_eq_true, Bool.and_true, if_true, List.all_cons, List.all_nil]
  have e1 : [x, y, z].eraseDups.length = 3 := by simp [List.eraseDups_cons, yx, zx, zy]
  rw [if_neg (by simp), if_neg, if_neg (by rw [e1]; simp), if_neg (fun z => by rw [z] at h10; cases h10), if_neg (fun z => by rw [z] at h9; cases h9)]
  intro q
  rcases Bool.or_eq_true_iff.mp q with q | q
  · split at q
    · cases h11
    · cases q
  rcases Bool.or_eq_true_iff.mp q with q | q
  · split at q
    · cases h12
    · cases q
  · rw [Bool.or_false] at q
    split at q
    · cases h13
    · cases q
theorem swap2_l {cd : Cd} {x y : Str} {px py : Pos} {a b : Expr} (h : swap2 cd x y px py a b = true) : isL cd x = true ∧ isL cd y = true := by
  unfold swap2 at h
  simp only [Bool.and_eq_true] at h
  exact h.1.1.1.1.1.1.1
theorem swap3_l {cd : Cd} {x y z : Str} {px py pz : Pos} {a b d : Expr} (h : swap3 cd x y z px py pz a b d = true) : (isL cd x = true ∧ isL cd y = true) ∧ isL cd z = true := by
  unfold swap3 at h
  simp only [Bool.and_eq_true] at h
  exact h.1.1.1.1.1.1.1.1.1.1.1
/-! ### the check -/
def swB (cd : Cd) (x : Str) (np cp : Pos) (scope : Scope) : Bool := isL cd x && (np.line == cp.line) && !(scope.names.any fun (n, k) => n == x && (k == .local || k == .cell))
theorem sw_lc (c : Cok g T p lv X W cd) {ee : Expr} {gs : List Comprehension} {scope : Scope} {x : Str} {np cp : Pos} {l : Nat} (hk : cd.sc.kind = .function) : swapsWith (.ListComp ee gs scope cp) (some (.Name x np)) l X.env = pure (swB cd x np cp scope) := by
  have hb : X.env.blockKind = .function := by
    unfold Env.blockKind
    rw [c.sc, hk]
    rfl
  have ek : (X.env.kindOf x == some NameKind.local) = isL cd x := by
    cases q : isL cd x with
    | true => exact isL_yes c q
    | false => exact isL_no c q
  unfold swapsWith swB
  simp only [hb, ek, Expr.pos]
  rfl
/-- raise C(..) -/
theorem raise_post (c : Cok g T p lv X W cd) {n : Nat} {k : Nat} {z : Str} {fo : Option Nat} {fl : Option (Str × Str)} {params : Arguments} {body : List Stmt} {scope : Scope} {fI : Addr} {ds : List D} {vs : List V} {δ : Sl} {σ : L2.St} {D : Ends} (q : p.gv.xc n = some (k, z, fo))
    (h1 : XfRel g T n fo fl) (h3 : g.fN k = "code") (h4 : z.length ≤ sizeLine) (M : MRel g ρ F m H) (rs : RSl g ρ F m.length δ σ) (r : RDs g ρ F m.length ds vs) (P : PostS g ρ F m H (match excF p.gv n ds with | some fs => S.ex ⟨n, fs⟩ δ m | none => .no) D W) :
    vs.length = (if fl.isSome then 1 else 0) ∧ ∀ dx, H dx = none → W (.ref (g.xA n)) (some dx) σ (upd H dx (.xd (DnX.fsX z (DnX.valV fl vs.head?)))) := by
  cases e : excF p.gv n ds with
  | none => rw [e] at P; exact P.elim
  | some l =>
    rw [e] at P
    obtain ⟨t1, t2⟩ := excF_at (scope := scope) (params := params) (body := body) (fI := fI) q h1 h3 h4 e r
    refine ⟨t1, fun dx hd => ?_⟩
    obtain ⟨x1, M1⟩ := step_pure (ho := .xd (DnX.fsX z (DnX.valV fl vs.head?))) M hd
    exact P σ _ _ _ _ _ x1 M1 (rs.mono x1) ⟨rfl, dx, _, rfl, upd_same, RPf.up x1.Sub t2⟩
theorem s_raise1 (c : Cok g T p lv X W cd) {n : Nat} {x : Str} {np pos rp : Pos} {e : Expr} {es : List Expr} {rl : Sl → Mem → R (List Dn.D)} (hx : T.xm n = some x) (hg : isGl cd x = true) (hd : nodb x = true) (ha : PA X (e :: es) (rdA g W rl)) (he : starEach (e :: es) X.env = (false, eval e X.env) :: starEach es X.env) (hpl : (backTo pos (starEach es X.env)).any (·.1) = false) :
    PS X (.Raise (some (.Call (.Name x np) (e :: es) [] pos)) none rp) (rdS g W fun δ m => (rl δ m).toS δ fun xs m => match excF p.gv n xs with | some fs => .ex ⟨n, fs⟩ δ m | none => .no) := by
  obtain ⟨k, z, fo, q⟩ := made_of c hx
  obtain ⟨⟨fl, params, body, scope, fI, h1, h2⟩, h3, h4, _⟩ := c.xc _ _ _ _ q
  refine (ps_raise c.calm c.tk (DnX.pmk_exn1 (k := 3 * lv + 3) h2 c.room (c.glb hg) (c.xm n x hx).1 ha (noup_ok hd) he hpl)).imp fun D σ H h => ?_
  exact rdS.to h fun δ ds m ρ F vs H' M rs r P => raise_post c (scope := scope) (params := params) (body := body) (fI := fI) q h1 h3 h4 M rs r P
theorem s_raise0 (c : Cok g T p lv X W cd) {n : Nat} {x : Str} {np pos rp : Pos} (hx : T.xm n = some x) (hg : isGl cd x = true) (hd : nodb x = true) :
    PS X (.Raise (some (.Call (.Name x np) [] [] pos)) none rp) (rdS g W fun δ m => (R.ok ([] : List Dn.D) m).toS δ fun xs m => match excF p.gv n xs with | some fs => .ex ⟨n, fs⟩ δ m | none => .no) := by
  obtain ⟨k, z, fo, q⟩ := made_of c hx
  obtain ⟨⟨fl, params, body, scope, fI, h1, h2⟩, h3, h4, _⟩ := c.xc _ _ _ _ q
  refine (ps_raise c.calm c.tk (DnX.pmk_exn0 (k := 3 * lv + 3) h2 c.room (c.glb hg) (c.xm n x hx).1 (noup_ok hd))).imp fun D σ H ⟨δ, m, ρ, F, M, rs, P⟩ => ?_
  exact raise_post c (ds := []) (vs := []) (scope := scope) (params := params) (body := body) (fI := fI) q h1 h3 h4 M rs trivial P
mutual
def chkS (T : Tb) (cd : Cd) : RS → Stmt → Bool
  | .set i e, s => match s with
    | .Assign [.Name x np] v _ => decide (cd.N[i]? = some x) && isLoc cd x && decide (cd.sc.kind = .function) && chkE T cd e v && (match v with
      | .ListComp .. => (match e with | .lc .. => true | .lc2 .. => true | _ => false)
      | _ => noComp v)
    | _ => false
  | .asg t e, s => match s with
    | .Assign [.Tuple ts k tp] v _ => chkT cd t (.Tuple ts k tp) && chkE T cd e v && (match v with | .Tuple .. => false | _ => true)
    | _ => false
  | .par is l, s => match s with
    | .Assign [.Tuple ts _ _] (.Tuple vs _ _) _ => namesOk cd is ts && chkL T cd l vs && decide (is.length ≤ 100) && (noSwap cd ts vs || (match is, ts, vs with
      | [i, j], [.Name x px, .Name y py], [a, b] => decide (i ≠ j) && swap2 cd x y px py a b
      | [i, j, k], [.Name x px, .Name y py, .Name z pz], [a, b, d] => decide (i ≠ j) && decide (i ≠ k) && decide (j ≠ k) && swap3 cd x y z px py pz a b d
      | _, _, _ => false))
    | _ => false
  | .iset a b e, s => match s with
    | .Assign [.Subscript x y _] v _ => chkE T cd a x && chkE T cd b y && noSl y && chkE T cd e v
    | _ => false
  | .fset a f e, s => match s with
    | .Assign [.Attribute x n _] v _ => decide (T.fl f = some n) && chkE T cd a x && chkE T cd e v
    | _ => false
  | .wall, _ => true
  | .aug i o e, s => match s with
    | .AugAssign (.Name x _) op v _ => decide (cd.N[i]? = some x) && isLoc cd x && decide (op = bO o) && chkE T cd e v
    | _ => false
  | .iaug a b o e, s => match s with
    | .AugAssign (.Subscript x y _) op v _ => chkE T cd a x && chkE T cd b y && noSl y && decide (op = bO o) && chkE T cd e v
    | _ => false
  | .ex e, s => match s with
    | .Expr v _ => chkE T cd e v && noComp v
    | _ => false
  | .ret e, s => match s with
    | .Return (some v) _ => chkE T cd e v
    | .Return none _ => (match e with | .cst .non => true | _ => false)
    | _ => false
  | .ite c a b, s => match s with
    | .If x y z _ => chkE T cd c x && noIf x && chkB T cd a y && chkB T cd b z
    | _ => false
  | .forr t it b, s => match s with
    | .For tg iter y [] _ => chkT cd t tg && chkI T cd it tg iter && noSet iter && chkB T cd b y
    | _ => false
  | .whl _ c b, s => match s with
    | .While x y [] _ => chkE T cd c x && noIf x && chkB T cd b y
    | _ => false
  | .pas, s => match s with
    | .Pass _ => true
    | _ => false
  | .brk, s => match s with
    | .Break _ => true
    | _ => false
  | .cnt, s => match s with
    | .Continue _ => true
    | _ => false
  | .raise k l, s => match s with
    | .Raise (some (.Call (.Name y _) es [] _)) none _ => decide (T.xm k = some y) && isGl cd y && nodb y && chkL T cd l es && es.all noStar
    | _ => false
def chkB (T : Tb) (cd : Cd) : RB → List Stmt → Bool
  | .nil, l => l.isEmpty
  | .cons s b, l => match l with
    | x :: l => chkS T cd s x && chkB T cd b l
    | [] => false
  | .lock _ b, l => chkB T cd b l
end
theorem RSl.same {k : Nat} {δ : Sl} {σ : L2.St} {i : Nat} {d : Dn.D} {v : V} (h : RSl g ρ F k δ σ) (e : σ[i]? = some (some v)) (r : RD g ρ F k d v) : RSl g ρ F k (δ.set i (some d)) σ := ⟨by simpa using h.len, fun j d' q => by
  by_cases z : i = j
  · subst z
    have hl : i < δ.length := by
      have := (List.getElem?_eq_some_iff.mp q).1
      simpa using this
    rw [List.getElem?_set_self hl] at q
    cases q
    exact ⟨v, e, r⟩
  · rw [List.getElem?_set_ne z] at q
    exact h.get j d' q⟩
/-- a slot's object is locked ahead of the statements -/
theorem pss_freeze {X : Cx} {l : List Stmt} {t : TS} (h : PSs X l t) : PSs X l (fun D σ H => Frzb (t D σ) H) := by
  refine ⟨fun pins s σ H D I hw => ?_⟩
  have go : ∀ H1, Frzb (t D σ) H1 → Inv X pins σ H1 s → ∃ H2, Inv X pins σ H2 s ∧ t D σ H2 := by
    intro H1 q
    induction q with
    | done k => exact fun I1 => ⟨_, I1, k⟩
    | lock hd mu _ ih =>
      intro I1
      obtain ⟨od, I2⟩ := I1.lock hd mu
      exact ih od I2
  obtain ⟨H2, I2, k⟩ := go H hw I
  exact h.run pins s σ H2 D I2 k
theorem b_lock {l : List Stmt} {i : Nat} {rb : Sl → Mem → S} (h : PSs X l (rdS g W rb)) : PSs X l (rdS g W fun δ m => match δ[i]? with
    | some (some d) => (match frzS d m with | .ok x m => rb (δ.set i (some x)) m | _ => .no)
    | _ => .no) := by
  refine (pss_freeze h).imp fun D σ H ⟨δ, m, ρ, F, M, rs, P⟩ => ?_
  dsimp only at P
  split at P
  · rename_i d hd
    split at P
    · rename_i x m' e
      obtain ⟨v, e1, r⟩ := rs.get i d hd
      unfold frzS at e
      split at e
      · rename_i y m2 e2
        cases e
        exact frzN_rel 5 d m y m' ρ F v H e2 M r fun F' H' x1 M1 _ r1 => .done ⟨_, m', ρ, F', M1, (rs.mono x1).same (d := .p y) e1 (show RP g F' y v from r1), PostS.on x1 P⟩
      · cases e
    · exact P.elim
  · exact P.elim
theorem tup_asg {ts : List Expr} {k : Nat} {tp : Pos} {env : Env} : (assignEach [Expr.Tuple ts k tp] env).map (·.2) = [assign (.Tuple ts k tp) env] := rfl
theorem swapped_no {ts : List Expr} {k : Nat} {tp : Pos} {v : Expr} {env : Env} (h : (match v with | .Tuple .. => false | _ => true) = true) : swappedStores [.Tuple ts k tp] v env = pure none := by cases v <;> first | rfl | cases h
mutual
theorem sS : ∀ (rs : RS) {X : Cx} {W : WX} {cd : Cd} (c : Cok g T p lv X W cd) (hp : PassesOwn (model X.prog X.w) X.A X.env X.xe) {s : Stmt}, chkS T cd rs s = true → PS X s (rdS g W (denS (callAt p lv) p.gv rs))
  | .set i e, X, W, cd, c, hp, s, h => by
    unfold chkS at h
    split at h
    · rename_i x np v pos
      simp only [Bool.and_eq_true] at h
      obtain ⟨⟨⟨⟨h1, h2⟩, h3⟩, h4⟩, h5⟩ := h
      have h1 := of_decide_eq_true h1
      have h3 := of_decide_eq_true h3
      split at h5
      · rename_i ee gs scope cp
        cases q : swB cd x np cp scope with
        | false => exact s_set c h1 h2 (sE e c h4).pe (by rw [sw_lc c h3, q])
        | true =>
          split at h5
          · rename_i mu elt t it cnd own
            obtain ⟨ee', tg, iter, ifs, scope', pos', e1, L⟩ := lcP_mk c h4 (fun q => sI it c q) (fun c' q => sC cnd c' q) (fun c' q => (sE elt c' q).pe)
            cases e1
            refine s_setLc c h1 ?_ L (by rw [sw_lc c h3, q])
            unfold swB at q
            exact (and3 (and3 q).1).1
          · rename_i mu elt t it cnd t1 it1 cnd1 own own1
            obtain ⟨ee', tg, iter, ifs, tg1, iter1, ifs1, scope', pos', e1, L⟩ := lc2P_mk c h4 (fun q => sI it c q) (fun c' q => sC cnd c' q) (fun c' q => (sE elt c' q).pe) (fun c' q => sI it1 c' q) (fun c' q => sC cnd1 c' q)
            cases e1
            refine s_setLc2 c h1 ?_ L (by rw [sw_lc c h3, q])
            unfold swB at q
            exact (and3 (and3 q).1).1
          · cases h5
      · exact s_set c h1 h2 (sE e c h4).pe (sw_none h5)
    · cases h
  | .asg t e, X, W, cd, c, hp, s, h => by
    unfold chkS at h
    split at h
    · obtain ⟨h, h3⟩ := and3 h
      obtain ⟨h1, h2⟩ := and3 h
      exact s_asg (sE e c h2).pe (g_ok c h1) (sw_tgt rfl) (swapped_no h3) tup_asg
    · cases h
  | .par is l, X, W, cd, c, hp, s, h => by
    unfold chkS at h
    split at h
    · obtain ⟨h, h4⟩ := and3 h
      obtain ⟨h, h3⟩ := and3 h
      obtain ⟨h1, h2⟩ := and3 h
      rcases Bool.or_eq_true_iff.mp h4 with h4 | h4
      · exact s_parT c h1 (of_decide_eq_true h3) (sL l c h2) (noSwap_ok c h4)
      · split at h4
        · obtain ⟨h4, h5⟩ := and3 h4
          obtain ⟨s1, s2⟩ := swap2_l h5
          obtain ⟨n1, n2⟩ := and3 h1
          obtain ⟨n2, n3⟩ := and3 n2
          exact s_par2 c (of_decide_eq_true (and3 n1).1) (of_decide_eq_true (and3 n2).1) (of_decide_eq_true h4) s1 s2 (sL l c h2) (swap2_ok c h5)
        · obtain ⟨h4, h5⟩ := and3 h4
          obtain ⟨h4, h43⟩ := and3 h4
          obtain ⟨h41, h42⟩ := and3 h4
          obtain ⟨⟨s1, s2⟩, s3⟩ := swap3_l h5
          obtain ⟨n1, n2⟩ := and3 h1
          obtain ⟨n2, n3⟩ := and3 n2
          obtain ⟨n3, n4⟩ := and3 n3
          exact s_par3 c (of_decide_eq_true (and3 n1).1) (of_decide_eq_true (and3 n2).1) (of_decide_eq_true (and3 n3).1) (of_decide_eq_true h41) (of_decide_eq_true h42) (of_decide_eq_true h43) s1 s2 s3 (sL l c h2) (swap3_ok c h5)
        · cases h4
    · cases h
  | .iset a b e, X, W, cd, c, hp, s, h => by
    unfold chkS at h
    split at h
    · obtain ⟨h, h4⟩ := and3 h
      obtain ⟨h, h3⟩ := and3 h
      obtain ⟨h1, h2⟩ := and3 h
      exact s_iset c.hu (sE a c h1).pe (sE b c h2).pe h3 (sE e c h4).pe
    · cases h
  | .fset a f e, X, W, cd, c, hp, s, h => by
    unfold chkS at h
    split at h
    · obtain ⟨h, h3⟩ := and3 h
      obtain ⟨h1, h2⟩ := and3 h
      exact s_fset c (of_decide_eq_true h1) (sE a c h2).pe (sE e c h3).pe
    · cases h
  | .wall, X, W, cd, c, hp, s, h => ⟨fun pins s σ H D I ⟨δ, m, ρ, F, M, rs, P⟩ => P.elim⟩
  | .raise k l, X, W, cd, c, hp, s, h => by
    unfold chkS at h
    split at h
    · rename_i y np es pos rp
      obtain ⟨h, h5⟩ := and3 h
      obtain ⟨h, h4⟩ := and3 h
      obtain ⟨h, h3⟩ := and3 h
      obtain ⟨h1, h2⟩ := and3 h
      cases es with
      | nil =>
        rw [nil_of h4]
        exact s_raise0 c (of_decide_eq_true h1) h2 h3
      | cons a es =>
        have h5 : (noStar a && es.all noStar) = true := h5
        exact s_raise1 c (of_decide_eq_true h1) h2 h3 (sL l c h4) (star_cons (and3 h5).1) (plain_any (and3 h5).2)
    · cases h
  | .aug i o e, X, W, cd, c, hp, s, h => by
    unfold chkS at h
    split at h
    · obtain ⟨h, h4⟩ := and3 h
      obtain ⟨h, h3⟩ := and3 h
      obtain ⟨h1, h2⟩ := and3 h
      have h3 := of_decide_eq_true h3
      subst h3
      exact s_aug c (of_decide_eq_true h1) h2 (sE e c h4).pe
    · cases h
  | .iaug a b o e, X, W, cd, c, hp, s, h => by
    unfold chkS at h
    split at h
    · obtain ⟨h, h5⟩ := and3 h
      obtain ⟨h, h4⟩ := and3 h
      obtain ⟨h, h3⟩ := and3 h
      obtain ⟨h1, h2⟩ := and3 h
      have h4 := of_decide_eq_true h4
      subst h4
      exact s_iaug c (sE a c h1).pe (sE b c h2).pe h3 (sE e c h5).pe
    · cases h
  | .ex e, X, W, cd, c, hp, s, h => by
    unfold chkS at h
    split at h
    · obtain ⟨h1, h2⟩ := and3 h
      exact s_ex (sE e c h1).pe h2
    · cases h
  | .ret e, X, W, cd, c, hp, s, h => by
    unfold chkS at h
    split at h
    · exact s_ret (sE e c h).pe
    · split at h
      · exact s_retN
      · cases h
    · cases h
  | .ite d a b, X, W, cd, c, hp, s, h => by
    unfold chkS at h
    split at h
    · obtain ⟨h, h4⟩ := and3 h
      obtain ⟨h, h3⟩ := and3 h
      obtain ⟨h1, h2⟩ := and3 h
      exact s_ite ((sE d c h1).pt h2) (sB a c hp h3) (sB b c hp h4)
    · cases h
  | .forr t it b, X, W, cd, c, hp, s, h => by
    unfold chkS at h
    split at h
    · obtain ⟨h, h4⟩ := and3 h
      obtain ⟨h, h3⟩ := and3 h
      obtain ⟨h1, h2⟩ := and3 h
      exact s_for hp c.calm (sI it c h2) (g_ok c h1) (sB b c hp h4) h3
    · cases h
  | .whl n d b, X, W, cd, c, hp, s, h => by
    unfold chkS at h
    split at h
    · obtain ⟨h, h3⟩ := and3 h
      obtain ⟨h1, h2⟩ := and3 h
      exact s_whl hp ((sE d c h1).pt h2) (sB b c hp h3) n
    · cases h
  | .pas, X, W, cd, c, hp, s, h => by
    unfold chkS at h
    split at h
    · exact s_pas
    · cases h
  | .brk, X, W, cd, c, hp, s, h => by
    unfold chkS at h
    split at h
    · exact s_brk
    · cases h
  | .cnt, X, W, cd, c, hp, s, h => by
    unfold chkS at h
    split at h
    · exact s_cnt
    · cases h
theorem sB : ∀ (rb : RB) {X : Cx} {W : WX} {cd : Cd} (c : Cok g T p lv X W cd) (hp : PassesOwn (model X.prog X.w) X.A X.env X.xe) {l : List Stmt}, chkB T cd rb l = true → PSs X l (rdS g W (denB (callAt p lv) p.gv rb))
  | .nil, X, W, cd, c, hp, l, h => by
    unfold chkB at h
    cases l with
    | nil => exact b_nil
    | cons _ _ => cases h
  | .cons s b, X, W, cd, c, hp, l, h => by
    unfold chkB at h
    split at h
    · obtain ⟨h1, h2⟩ := and3 h
      exact b_cons (sS s c hp h1) (sB b c hp h2)
    · cases h
  | .lock i b, X, W, cd, c, hp, l, h => by
    unfold chkB at h
    exact b_lock (sB b c hp h)
end
end
end Dn

/-! Dn, part Q: defs. -/
namespace Dn
open PySem PySem.Spec PyProof.Rows L2
/-- a def as it stands behind the top -/
structure FnK (g : Gn) (T : Tb) (p : Pg) (K : PySem.W.Frag) (f : Nat) (d : FD) (a : Addr) (fd : FuncData) (ps : List Str) : Prop where
  ex : ∃ (x qual : Str) (params : Arguments) (body : List Stmt) (scope : Scope) (N : List Str),
    FunD K x qual params body scope [] [] a fd ∧ FnScope N ps scope ∧ chkB T ⟨N, scope, fun _ => true⟩ d.body body = true ∧ N.length = d.ns ∧ ps.length = d.np ∧ d.df = [] ∧ d.st = false
  bnd : Binds K fd ps []
  kw : ∀ np ks pm, T.kw f np ks = some pm → pm.length = ps.length ∧ (∀ i ∈ pm, i < np + ks.length) ∧ KBn K fd ps np ks (permL pm) (permL pm)
/-- a def with a star parameter at its end -/
structure FnS (g : Gn) (T : Tb) (p : Pg) (K : PySem.W.Frag) (f : Nat) (d : FD) (a : Addr) : Prop where
  ex : ∃ (x qual : Str) (params : Arguments) (body : List Stmt) (scope : Scope) (N ps : List Str) (pv : Str) (fd : FuncData),
    FunD K x qual params body scope [] [] a fd ∧ FnScope N (ps ++ [pv]) scope ∧ chkB T ⟨N, scope, fun _ => true⟩ d.body body = true ∧ N.length = d.ns ∧ ps.length + 1 = d.np ∧ d.st = true ∧
    ∀ us rest : List Value, us.length = ps.length → bindArgs fd ⟨us ++ rest, []⟩ = (newTuple rest >>= fun t => pure (ps.zip us ++ [(pv, t)]))
structure Base (g : Gn) (T : Tb) (p : Pg) (mg : Str → Option Value) (ad : Nat → Addr) (P : Program) : Prop where
  kf : Kf g
  bl : ∀ x ∈ (["isinstance", "range", "zip", "len", "int", "abs", "list", "tuple", "all", "any", "sum", "str", "bool", "dict", "enumerate", "sorted", "min", "max", "set", "type", "repr", "super", "ValueError", "LookupError", "IndexError"] : List String), mg (Str.ofString x) = none
  gl : ∀ n x, T.gl n = some x → ∃ v u, mg x = some u ∧ RelV v u ∧ ∀ F, RP g F (p.gv.c n) v
  cn : ∀ n x, T.cn n = some x → mg x = some (.ref (g.cA n)) ∧ g.cs n = true
  fd : ∀ f d, p.fd f = some d → (∃ fd ps, FnK g T p g.K f d (ad f) fd ps) ∨ FnS g T p g.K f d (ad f)
  fn : ∀ f x, T.fn f = some x → mg x = some (.ref (ad f)) ∧ PySem.W.keepIn g.K (.ref (ad f)) = true ∧ ∃ d, p.fd f = some d
  kwn : ∀ f np ks pm, T.kw f np ks = some pm → ∀ d, p.fd f = some d → ∃ fd ps, FnK g T p g.K f d (ad f) fd ps
  fl : ∀ n x, T.fl n = some x → g.fN n = x
  fk : ∀ c n, p.gv.fk c n = true → NoAttr g.K (g.cA c) (g.fN n)
  mt : ∀ c n f x, p.gv.mt c n = some f → T.mn n = some x → (∀ j, g.fN j ≠ x) ∧ Meth g.K (g.cA c) x (ad f)
  pr : ∀ c n f x, p.gv.pr c n = some f → T.mn n = some x → ∃ q, PropOf g.K (g.cA c) x q (ad f)
  ini : ∀ c f, p.gv.ini c = some f → g.cs c = true ∧ Mk g.K (g.cA c) (ad f)
  om : ∀ c k f, p.gv.om c k = some f → PySem.W.findIn g.K (.ref (g.cA c)) (omN k) = some (some (.ref (ad f))) ∧ PySem.W.isFn g.K (.ref (ad f)) = true
  one : ∀ c f, p.gv.om c 3 = some f → PySem.W.findIn g.K (.ref (g.cA c)) "__ne__" = some (some (.builtin "object.__ne__"))
  cc : ∀ c n x y, p.gv.cc c n = some y → T.cc n = some x → ∃ mc v u, ClX.CRead g.K (g.cA c) mc ∧ ClX.CVal g.K (g.cA c) mc x v u ∧ ∀ F, RP g F y v
  sm : ∀ c n f b x, p.gv.sm c n = some (f, b) → T.sn n = some x → ∃ mc q, ClX.CRead g.K (g.cA c) mc ∧ ((b = true ∧ ClX.CMet g.K (g.cA c) mc x q (ad f)) ∨ (b = false ∧ SMet g.K (g.cA c) mc x q (ad f)))
  xn : ∀ n x, T.xn n = some x → mg x = some (.ref (g.xA n))
  xm : ∀ n x, T.xm n = some x → mg x = some (.ref (g.xA n)) ∧ (p.gv.xc n).isSome = true
  xc : ∀ c k z fo, p.gv.xc c = some (k, z, fo) → XcOk g T P g.K mg c k z fo
  xpn : ∀ n x, T.xp n = some x → ((p.gv.xc n).bind (·.2.2)).isSome = true
  xsub : ∀ c t b, p.gv.xsub c t = some b → ExcC g.K (g.xA c) ∧ PySem.W.kitOne g.K (.ref (g.xA c)) (xtU g t) = some b
def spL (g : Gn) (p : Pg) (lv f : Nat) (n : Nat) : Sp := fun vs H Q E => vs.length = n ∧ ∃ ds m ρ F, MRel g ρ F m H ∧ RDs g ρ F m.length ds vs ∧ PostD g ρ F m H (callAt p lv f ds m) Q E
section
variable {g : Gn} {T : Tb} {p : Pg} {lv : Nat} {P : Program} {w : World} {mg : Str → Option Value} {base : Heap}
theorem args_plain {d : FD} (h1 : d.df = []) (h2 : d.st = false) {l l' : List D} (h : argsD d l = some l') : l' = l ∧ l.length = d.np := by
  unfold argsD at h
  rw [h2, h1] at h
  simp only [List.length_nil, Nat.add_zero, List.drop_nil, List.map_nil, List.append_nil] at h
  split at h
  · rename_i hl
    cases h
    exact ⟨rfl, by omega⟩
  · cases h
theorem runD_args {cl : Nat → List D → Mem → R D} {gv : Gv} {d : FD} (h1 : d.df = []) (h2 : d.st = false) {l : List D} {m : Mem} {ρ : Rho} {F H : Hp} {Q : VK} {E : XK} (h : PostD g ρ F m H (runD cl gv d l m) Q E) : l.length = d.np ∧ argsD d l = some l := by
  unfold runD at h
  split at h
  · rename_i l' e
    obtain ⟨rfl, e2⟩ := args_plain h1 h2 e
    exact ⟨e2, e⟩
  · exact h.elim
theorem start_ok {ρ : Rho} {F : Hp} {k n : Nat} {N : List Str} {ds : List D} {vs : List V} (r : RDs g ρ F k ds vs) (hn : N.length = n) : RSl g ρ F k (startD n ds) (L2.start N vs) := by
  have hl := r.length
  refine ⟨by unfold startD L2.start; simp [hl, hn], fun i d e => ?_⟩
  unfold startD at e
  unfold L2.start
  by_cases hi : i < ds.length
  · rw [List.getElem?_append_left (by simpa using hi), List.getElem?_map] at e
    obtain ⟨d', e1, e2⟩ := Option.map_eq_some_iff.mp e
    cases e2
    obtain ⟨v, e3, r3⟩ := r.get e1
    exact ⟨v, by rw [List.getElem?_append_left (by rw [List.length_map, ← hl]; exact hi), List.getElem?_map, e3]; rfl, r3⟩
  · rw [List.getElem?_append_right (by simpa using hi)] at e
    have := List.getElem?_eq_some_iff.mp e
    obtain ⟨h1, h2⟩ := this
    simp at h2
theorem FnR_of {a : Addr} {fd : FuncData} {ps : List Str} {f : Nat} {d : FD} (hd : p.fd f = some d) (k : FnK g T p g.K f d a fd ps) {j : Nat} (Fn : FnOk P w g.K mg base (L2.CX P w) j a fd ps (spL g p lv f ps.length)) :
    FnR P w g.K mg base (L2.CX P w) j a (fun vs H Q E => ∃ ds m ρ F, MRel g ρ F m H ∧ RDs g ρ F m.length ds vs ∧ PostD g ρ F m H (callAt p lv f ds m) Q E) := by
  refine (FnOk.raw Fn k.bnd (dvs := []) .nil).imp fun vs H Q E ⟨ds, m, ρ, F, M, r, h⟩ => ?_
  rw [List.append_nil]
  refine ⟨?_, ds, m, ρ, F, M, r, h⟩
  obtain ⟨x, qual, params, body, scope, N, _, _, _, _, e2, e3, e4⟩ := k.ex
  cases lv with
  | zero => exact h.elim
  | succ lv =>
    unfold callAt at h
    rw [hd] at h
    rw [← r.length, e2]
    exact (runD_args e3 e4 h).1
variable {ad : Nat → Addr}
/-- a def that is in no table gives nothing -/
theorem FnR_none {a : Addr} {f : Nat} {j : Nat} (h : p.fd f = none) : FnR P w g.K mg base (L2.CX P w) j a (fun vs H Q E => ∃ ds m ρ F, MRel g ρ F m H ∧ RDs g ρ F m.length ds vs ∧ PostD g ρ F m H (callAt p lv f ds m) Q E) := fun A outer s H us vs Q E _ _ _ ⟨ds, m, ρ, F, _, _, P⟩ => by
  have e : callAt p lv f ds m = .no := by
    cases lv with
    | zero => rfl
    | succ lv => unfold callAt; rw [h]
  rw [e] at P
  exact P.elim
theorem args_star {d : FD} (h2 : d.st = true) {l l' : List D} (h : argsD d l = some l') : ∃ ps, (d.np ≤ l.length + 1 ∧ ps.length ≤ sizeLine) ∧ l = l.take (d.np - 1) ++ ps.map D.p ∧ l' = l.take (d.np - 1) ++ [.p (.tup ps)] := by
  unfold argsD at h
  rw [h2] at h
  dsimp only at h
  split at h
  · rename_i hl
    obtain ⟨ps, e1, e2⟩ := Option.map_eq_some_iff.mp h
    refine ⟨ps, ⟨hl.1, ?_⟩, ?_, e2.symm⟩
    · have := congrArg List.length (allP_eq e1)
      rw [List.length_map, List.length_drop] at this
      rw [PySem.sizeLine_eq]
      omega
    rw [← allP_eq e1, List.take_append_drop]
  · cases h
/-- the calls that a def's body may make, one level below -/
structure Low (g : Gn) (T : Tb) (p : Pg) (P : Program) (w : World) (mg : Str → Option Value) (base : Heap) (ad : Nat → Addr) (lv : Nat) : Prop where
  R : ∀ f, FnR P w g.K mg base (L2.CX P w) (3 * lv + 2) (ad f) (fun vs H Q E => ∃ ds m ρ F, MRel g ρ F m H ∧ RDs g ρ F m.length ds vs ∧ PostD g ρ F m H (callAt p lv f ds m) Q E)
  O : ∀ f d, p.fd f = some d → ∀ fd ps, FnK g T p g.K f d (ad f) fd ps → FnOk P w g.K mg base (L2.CX P w) (3 * lv + 2) (ad f) fd ps (spL g p lv f ps.length)
theorem cok_of (B : Base g T p mg ad P) (L : Low g T p P w mg base ad lv) {N : List Str} {qual : Str} {scope : Scope} {fa : Addr} {cdv : Value} {A : Around} {outer : List Env} {s : Shared} {H : Hp} {E : XK} (nd : N.Nodup)
    (hr : Room (3 * lv + 4) (A.deeper (envOfC qual scope s.heap.objs.size fa cdv))) : Cok g T p lv (cxOf (L2.CX P w) P w g.K mg base N qual scope fa cdv A outer s H E) (fun cls dd _ H => E cls dd H) ⟨N, scope, fun _ => true⟩ where
  K := rfl
  kf := B.kf
  N := rfl
  sc := rfl
  fn := rfl
  nd := nd
  calm := rfl
  tk := takes_of rfl rfl rfl rfl
  room := hr
  bl := B.bl
  call := fun f' x' hf' => by
    obtain ⟨q1, q2, d', _⟩ := B.fn f' x' hf'
    exact ⟨ad f', q1, q2, L.R f'⟩
  callK := fun f' x' np ks pm hf' hp => by
    obtain ⟨q1, q0, d', q2⟩ := B.fn f' x' hf'
    obtain ⟨fd', ps', k'⟩ := B.kwn f' np ks pm hp d' q2
    obtain ⟨q3, q4, q5⟩ := k'.kw np ks pm hp
    exact ⟨ad f', fd', ps', q1, q0, L.O f' d' q2 fd' ps' k', q3, q4, q5⟩
  gl := B.gl
  cn := B.cn
  fl := B.fl
  fk := B.fk
  mt := fun c n f x h1 h2 => let ⟨q1, q2⟩ := B.mt c n f x h1 h2; ⟨q1, ad f, q2, L.R f⟩
  pr := fun c n f x h1 h2 => let ⟨q, q1⟩ := B.pr c n f x h1 h2; ⟨q, ad f, q1, L.R f⟩
  ini := fun c f h1 => let ⟨q1, q2⟩ := B.ini c f h1; ⟨q1, ad f, q2, L.R f⟩
  om := fun c k f h1 => let ⟨q1, q2⟩ := B.om c k f h1; ⟨ad f, q1, q2, L.R f⟩
  one := B.one
  cc := B.cc
  smK := fun c n f' x d' ks pm h1 h2 hf' hp => by
    obtain ⟨mc, q, q1, ⟨_, q3⟩ | ⟨z, _⟩⟩ := B.sm c n f' true x h1 h2
    · obtain ⟨fd', ps', k'⟩ := B.kwn f' 1 ks pm hp d' hf'
      obtain ⟨q4, q5, q6⟩ := k'.kw 1 ks pm hp
      exact ⟨mc, q, ad f', fd', ps', q1, q3, L.O f' d' hf' fd' ps' k', q4, q5, q6⟩
    · cases z
  sm := fun c n f b x h1 h2 => by
    obtain ⟨mc, q, q1, q2⟩ := B.sm c n f b x h1 h2
    exact ⟨mc, q, ad f, q1, L.R f, q2⟩
  xn := B.xn
  xm := B.xm
  xc := B.xc
  xpn := B.xpn
  xsub := B.xsub
theorem body_ok {d : FD} {body : List Stmt} {N : List Str} {ds : List D} {vs : List V} {m : Mem} {ρ : Rho} {F H : Hp} {Q : VK} {E : XK} {X : Cx} {cd : Cd} (c : Cok g T p lv X (fun cls dd _ H => E cls dd H) cd) (hp : PassesOwn (model X.prog X.w) X.A X.env X.xe) (e3 : chkB T cd d.body body = true) (e4 : N.length = d.ns)
    (M : MRel g ρ F m H) (r : RDs g ρ F m.length ds vs) (h : PostD g ρ F m H (endS (denB (callAt p lv) p.gv d.body (startD d.ns ds) m)) Q E) :
    ∃ t, PSs X body t ∧ t { nx := fun _ H' => Q .non H', rt := Q } (L2.start N vs) H := by
  refine ⟨_, sB d.body c hp e3, startD d.ns ds, m, ρ, F, M, start_ok r e4, ?_⟩
  cases q : denB (callAt p lv) p.gv d.body (startD d.ns ds) m with
  | no => rw [q] at h; exact h.elim
  | ex x δ' m' =>
    rw [q] at h
    exact fun σ cls dd H' ρ' F' e M' _ rx => h cls dd H' ρ' F' e M' rx
  | ok fl δ' m' =>
    rw [q] at h
    cases fl with
    | rt dv => exact fun σ H' ρ' F' e M' _ v rv => h v H' ρ' F' e M' rv
    | nx => exact fun σ H' ρ' F' e M' _ => h .non H' ρ' F' e M' RP.non
    | br => exact h.elim
    | ct => exact h.elim
/-- every def of the text, at every depth -/
theorem low_all (B : Base g T p mg ad P) : ∀ lv, Low g T p P w mg base ad lv
  | 0 => ⟨fun f A outer s H us vs Q E _ _ _ ⟨ds, m, ρ, F, _, _, h⟩ => h.elim, fun f d hf fd ps k => ⟨fun vs H Q E h => h.1, fun A outer s H args us vs Q E _ _ _ _ ⟨_, ds, m, ρ, F, M, r, h⟩ => h.elim⟩⟩
  | lv + 1 => by
    have L := low_all B lv
    have O : ∀ f d, p.fd f = some d → ∀ fd ps, FnK g T p g.K f d (ad f) fd ps → FnOk P w g.K mg base (L2.CX P w) (3 * (lv + 1) + 2) (ad f) fd ps (spL g p (lv + 1) f ps.length) := by
      intro f d hf fd ps k
      obtain ⟨x, qual, params, body, scope, N, e2, S, e3, e4, e5, e6, e7⟩ := k.ex
      refine e2.ok S (fun vs H Q E h => h.1) fun cdv A outer s H vs Q E hr ⟨hl, ds, m, ρ, F, M, r, h⟩ => ?_
      unfold callAt at h
      rw [hf] at h
      obtain ⟨h1, h2⟩ := runD_args e6 e7 h
      dsimp only at h
      unfold runD at h
      rw [h2] at h
      dsimp only at h
      have h := trim_post M h
      exact body_ok (cok_of B L S.nd hr) (passes_of rfl) e3 e4 M r h
    refine ⟨fun f => ?_, O⟩
    cases hf : p.fd f with
    | none => exact FnR_none hf
    | some d =>
      rcases B.fd f d hf with ⟨fd, ps, k⟩ | k
      · exact FnR_of hf k (O f d hf fd ps k)
      · obtain ⟨x, qual, params, body, scope, N, ps, pv, fd, e2, S, e3, e4, e5, e7, hb⟩ := k.ex
        obtain ⟨oc, od, dV, kV, doc, pm, an, cdv, ct, osl, rfl, lk, hcd, _, _⟩ := e2.ex
        have key := StX.fn_star (P := P) (w := w) (mg := mg) (base := base) (k := 3 * lv + 4) (sp := fun vs H Q E => ∃ ds m ρ F, MRel g ρ F m H ∧ RDs g ρ F m.length ds vs ∧ PostD g ρ F m H (endS (denB (callAt p lv) p.gv d.body (startD d.ns ds) m)) Q E) lk hcd S (StX.cxUp (P := P) (w := w)) hb
          fun A outer s H vs Q E hr ⟨ds, m, ρ, F, M, r, h⟩ => body_ok (cok_of B L S.nd hr) (passes_of rfl) e3 e4 M r h
        refine FnR.imp key fun vs H Q E ⟨ds, m, ρ, F, M, r, h⟩ => ?_
        unfold callAt at h
        rw [hf] at h
        dsimp only at h
        unfold runD at h
        cases ea : argsD d ds with
        | none => rw [ea] at h; exact h.elim
        | some l' =>
          rw [ea] at h
          dsimp only at h
          obtain ⟨rest, ⟨hnp, hz⟩, el, el'⟩ := args_star e7 ea
          have h := trim_post M h
          have hnp1 : d.np - 1 = ps.length := by omega
          rw [hnp1] at el el'
          have lt : (ds.take ps.length).length = ps.length := by rw [List.length_take]; omega
          have hv : vs = vs.take ps.length ++ vs.drop ps.length := (List.take_append_drop _ _).symm
          have rt := RDs.take ps.length r
          have rdr : RDs g ρ F m.length (rest.map D.p) (vs.drop ps.length) := by
            have := RDs.drop ps.length r
            rw [show ds.drop ps.length = rest.map D.p by
              rw [el, List.drop_append_of_le_length (by omega), List.drop_of_length_le (by omega), List.nil_append]] at this
            exact this
          refine ⟨vs.take ps.length, vs.drop ps.length, hv, by rw [← rt.length]; exact lt, by rw [← rdr.length, List.length_map]; exact hz, fun q hq => ?_⟩
          obtain ⟨x1, M1⟩ := step_pure (ho := .tup (vs.drop ps.length)) M hq
          refine ⟨_, m, ρ, _, M1, ?_, Post.on x1 h⟩
          rw [el']
          exact (rt.mono x1).append ⟨RP.tup hz upd_same (RPs.up x1.Sub (RPs.of rdr)), trivial⟩
theorem all_fn (B : Base g T p mg ad P) (lv f : Nat) (d : FD) (hf : p.fd f = some d) (fd : FuncData) (ps : List Str) (k : FnK g T p g.K f d (ad f) fd ps) : FnOk P w g.K mg base (L2.CX P w) (3 * lv + 2) (ad f) fd ps (spL g p lv f ps.length) := (low_all B lv).O f d hf fd ps k
end
end Dn

/-! Dn, part RB: exceptions' own __init__: the text's check, the head's facts. -/
namespace Dn
open PySem PySem.Spec PyProof.Rows L2
open He (ga ma eqO eqO_ok ba)
def tailB : Option (Str × Str) → List Stmt → Bool
  | none, l => l.isEmpty
  | some q, l => match l with
    | [.Assign [.Attribute (.Name s _) g _] (.Name y _) _] => decide (s = "self") && (decide (g = q.2) && decide (y = q.1))
    | _ => false
theorem tailB_ok {fl : Option (Str × Str)} {l : List Stmt} (h : tailB fl l = true) : DnX.tailS fl l := by
  match fl with
  | none =>
    cases l with
    | nil => rfl
    | cons _ _ => cases h
  | some (x, f) =>
    unfold tailB at h
    dsimp only at h
    split at h
    · obtain ⟨h1, h⟩ := ba h
      obtain ⟨h2, h3⟩ := ba h
      have e1 := of_decide_eq_true h1
      have e2 := of_decide_eq_true h2
      have e3 := of_decide_eq_true h3
      subst e1 e2 e3
      exact ⟨_, _, _, _, rfl⟩
    · cases h
def bodyB (lit : Str) (fl : Option (Str × Str)) : List Stmt → Bool
  | .Expr (.Call (.Attribute (.Call (.Name s _) [] [] _) i p2) [.Constant (.str l) _ _] [] p4) _ :: .Assign [.Attribute (.Name s2 _) c _] (.Constant (.str l2) _ _) _ :: r =>
    decide (s = "super") && (decide (i = "__init__") && (decide (l = lit) && ((p2.endLine == p4.line) && (decide (s2 = "self") && (decide (c = "code") && (decide (l2 = lit) && tailB fl r))))))
  | _ => false
theorem bodyB_ok {lit : Str} {fl : Option (Str × Str)} {body : List Stmt} (h : bodyB lit fl body = true) : ∃ j p0 p1 p2 p3 p4 p5 j' q0 q1 q2 q3 l, body = DnX.supS lit j p0 p1 p2 p3 p4 p5 :: DnX.codS lit j' q0 q1 q2 q3 :: l ∧ DnX.tailS fl l ∧ (p2.endLine == p4.line) = true := by
  unfold bodyB at h
  split at h
  · obtain ⟨h1, h⟩ := ba h
    obtain ⟨h2, h⟩ := ba h
    obtain ⟨h3, h⟩ := ba h
    obtain ⟨h4, h⟩ := ba h
    obtain ⟨h5, h⟩ := ba h
    obtain ⟨h6, h⟩ := ba h
    obtain ⟨h7, h8⟩ := ba h
    have e1 := of_decide_eq_true h1
    have e2 := of_decide_eq_true h2
    have e3 := of_decide_eq_true h3
    have e5 := of_decide_eq_true h5
    have e6 := of_decide_eq_true h6
    have e7 := of_decide_eq_true h7
    subst e1 e2 e3 e5 e6 e7
    exact ⟨_, _, _, _, _, _, _, _, _, _, _, _, _, rfl, tailB_ok h8, h4⟩
  · cases h
def xshB (params : Arguments) (body : List Stmt) (scope : Scope) (lit : Str) (fl : Option (Str × Str)) : Bool :=
  bodyB lit fl body && ((match (params.posonlyargs ++ params.args).head? with | some ar => decide (ar.arg = "self") | none => false) && (decide (scope.kind = .function) && (scope.names.all (fun x => decide (x.2 ≠ .cell)) && (!scope.isCoroutine && (!scope.isGenerator &&
  (decide (scope.names.lookup ("self" : Str) = some .local) && (decide (scope.names.lookup ("super" : Str) = some .globalImplicit) && (decide (scope.names.lookup ("__class__" : Str) = some .free) &&
  (match fl with | some q => decide (scope.names.lookup q.1 = some .local) && (!(q.1 == ("__debug__" : Str)) && decide (q.1 ≠ ("self" : Str))) | none => true)))))))))
theorem xshB_ok {params : Arguments} {body : List Stmt} {scope : Scope} {lit : Str} {fl : Option (Str × Str)} (h : xshB params body scope lit fl = true) : DnX.XSh params body scope lit fl := by
  unfold xshB at h
  obtain ⟨h1, h⟩ := ba h
  obtain ⟨h2, h⟩ := ba h
  obtain ⟨h3, h⟩ := ba h
  obtain ⟨h4, h⟩ := ba h
  obtain ⟨h5, h⟩ := ba h
  obtain ⟨h6, h⟩ := ba h
  obtain ⟨h7, h⟩ := ba h
  obtain ⟨h8, h⟩ := ba h
  obtain ⟨h9, h10⟩ := ba h
  refine ⟨bodyB_ok h1, ?_, of_decide_eq_true h3, fun x hx => of_decide_eq_true (List.all_eq_true.mp h4 x hx), by simpa using h5, by simpa using h6, of_decide_eq_true h7, of_decide_eq_true h8, of_decide_eq_true h9, fun x f e => ?_⟩
  · split at h2
    · rename_i ar e
      exact ⟨ar, e, of_decide_eq_true h2⟩
    · cases h2
  · rw [e] at h10
    obtain ⟨k1, k⟩ := ba h10
    obtain ⟨k2, k3⟩ := ba k
    exact ⟨of_decide_eq_true k1, by simpa using k2, of_decide_eq_true k3⟩
/-- what the text alone says -/
structure XSt (P : Program) (file : Str) (params : Arguments) (body : List Stmt) (scope : Scope) (lit : Str) (fl : Option (Str × Str)) : Prop where
  S : DnX.XSh params body scope lit fl
  b0 : fl = none → ∀ e name qual kV doc pm an cdv ct cc, bindArgs (PySem.W.ksFn name qual params body scope .none kV doc pm an cdv ct cc) ⟨[.ref e], []⟩ = pure (DnX.bndX e fl none)
  b1 : ∀ x f, fl = some (x, f) → ∀ u e name qual kV doc pm an cdv ct cc, bindArgs (PySem.W.ksFn name qual params body scope .none kV doc pm an cdv ct cc) ⟨[.ref e, u], []⟩ = pure (DnX.bndX e fl (some u))
  bk : ∀ x f, fl = some (x, f) → ∀ u e name qual kV doc pm an cdv ct cc, bindArgs (PySem.W.ksFn name qual params body scope .none kV doc pm an cdv ct cc) ⟨[.ref e], [(x, u)]⟩ = pure (DnX.bndX e fl (some u))
  top : (P.main.scope.names.lookup ("super" : Str)).isSome = false
  file : (P.main.file : Str) = file
theorem xTail_eq {t : List Value} : ∀ l, Tab.xTail t l = DnX.refsT t l := by
  intro l
  induction l with
  | nil => rfl
  | cons a r ih => cases a <;> first | exact ih | rfl
theorem bse_of : ∀ n, DnX.Bse (xbN n) (Tab.xNew n) (Tab.xIni n) (Tab.xMro n)
  | 0 => DnX.bse_VE
  | 1 => DnX.bse_LE
  | _ + 2 => DnX.bse_IE
/-- the record of the __init__ -/
theorem xi_ok {K : PySem.W.Frag} {f C : Addr} {file : Str} {params : Arguments} {body : List Stmt} {scope : Scope} (e : xiA K f = some (params, FuncBody.stmts body, scope, mainGlobals, [("__class__" : Str)], builtinsNs)) (h : Tab.xiB K f C file = true) :
    ∃ oc od osl name qual kV doc pm an cda ct cc, K.lookup f = some ⟨oc, od, .func (PySem.W.ksFn name qual params body scope .none kV doc pm an (.ref cda) ct cc), osl⟩ ∧ PySem.W.codeIn K (.ref cda) qual = true ∧
    (∃ ccl cdd vs ccs fl tf, K.lookup cda = some ⟨ccl, cdd, .fields vs, ccs⟩ ∧ vs[2]? = some (.str fl tf) ∧ (file == fl) = true) ∧ (∃ cl cld csl, K.lookup cc = some ⟨cl, cld, .cell (some (.ref C)), csl⟩) := by
  unfold xiA at e
  unfold Tab.xiB at h
  cases q : K.lookup f with
  | none =>
    rw [q] at h
    cases h
  | some o =>
    obtain ⟨oc, od, dt, osl⟩ := o
    rw [q] at h e
    cases dt with
    | func fd =>
      obtain ⟨n1, n2, n3, n4, n5, n6, n7, n8, n9, n10, n11, n12, n13, n14, n15⟩ := fd
      have e2 : (some (n3, n4, n5, n6, n7.map (·.1), n15) : XiW) = some (params, FuncBody.stmts body, scope, mainGlobals, [("__class__" : Str)], builtinsNs) := e
      simp only [Option.some.injEq, Prod.mk.injEq] at e2
      obtain ⟨h1, h2, h3, h4, h5, h6⟩ := e2
      subst h1 h2 h3 h4 h6
      dsimp only at h
      obtain ⟨k1, h⟩ := ba h
      obtain ⟨k2, h⟩ := ba h
      obtain ⟨k8, k3⟩ := ba h
      have hd : n8 = .none := by
        cases n8 <;> first | rfl | cases k8
      subst hd
      match n7, h5, k3 with
      | [(x, cc)], h5, k3 =>
        have hx : x = "__class__" := by simpa using h5
        subst hx
        split at k2
        · rename_i cda
          split at k2
          · rename_i ccl cdd vs ccs qc
            split at k2
            · rename_i z tf qz
              dsimp only at k3
              split at k3
              · rename_i cl cld D csl qd
                have hD : D = C := of_decide_eq_true k3
                subst hD
                exact ⟨_, _, _, _, _, _, _, _, _, _, _, _, rfl, k1, ⟨_, _, _, _, _, _, qc, qz, k2⟩, ⟨_, _, _, qd⟩⟩
              · cases k3
            · cases k2
          · cases k2
        · cases k2
      | [], h5, k3 => cases k3
      | _ :: _ :: _, h5, k3 => simp at h5
    | _ => cases h
namespace Tab
variable (t : Tab)
/-- the tables of exceptions agree with themselves -/
def exOk : Bool := t.ex.all fun q => (q.2.subs.all fun s => match s.1 with | .own c => (t.ex.lookup c).isSome | .blt _ => true) && (match q.2.own with
  | some (lit, fo) => decide (lit.length ≤ 10000) && (decide (fieldN t.fl t.kc = "code") && (match fo with
    | some (f, _, n) => decide (fieldN t.fl f = n) && decide (n ≠ "code")
    | none => true))
  | none => true)
end Tab
end Dn

/-! Dn, part R: the end. -/
namespace Dn
open PySem PySem.Spec PyProof.Rows L2
theorem mem_lk {α : Type} : ∀ {l : List (Nat × α)} {n : Nat} {x : α}, l.lookup n = some x → (n, x) ∈ l
  | (k, v) :: r, n, x, h => by
    rw [List.lookup_cons] at h
    cases hb : n == k with
    | true =>
      rw [hb] at h
      cases h
      rw [beq_iff_eq.mp hb]
      exact List.mem_cons_self
    | false =>
      rw [hb] at h
      exact List.mem_cons_of_mem _ (mem_lk h)
def fnScopeB (N ps : List Str) (sc : Scope) : Bool := decide (sc.kind = .function) && !sc.isCoroutine && !sc.isGenerator && decide N.Nodup && decide (N.take ps.length = ps) &&
  ps.all (fun x => match sc.names.lookup x with | some .local => true | some .cell => true | _ => false) && sc.names.all (fun y => decide (y.2 ≠ .free))
theorem fnScope_ok {N ps : List Str} {sc : Scope} (h : fnScopeB N ps sc = true) : FnScope N ps sc := by
  unfold fnScopeB at h
  simp only [Bool.and_eq_true] at h
  obtain ⟨⟨⟨⟨⟨⟨h1, h2⟩, h3⟩, h4⟩, h5⟩, h6⟩, h7⟩ := h
  refine ⟨of_decide_eq_true h1, by simpa using h2, by simpa using h3, of_decide_eq_true h4, of_decide_eq_true h5, fun x hx => ?_, fun y hy => of_decide_eq_true (List.all_eq_true.mp h7 y hy)⟩
  have := List.all_eq_true.mp h6 x hx
  split at this
  · rename_i e; exact .inl e
  · rename_i e; exact .inr e
  · cases this
def defB (T : Tb) (d : FD) (N ps : List Str) (st : Stmt) : Bool := chkB T ⟨N, defScope st, fun _ => true⟩ d.body (defBody st) && fnScopeB N ps (defScope st) && decide (N.length = d.ns) && decide (ps.length = d.np) && d.df.isEmpty && !d.st
/-- .. with a star parameter at its end -/
def defS (T : Tb) (d : FD) (N ps : List Str) (pv : Str) (st : Stmt) : Bool := chkB T ⟨N, defScope st, fun _ => true⟩ d.body (defBody st) && fnScopeB N (ps ++ [pv]) (defScope st) && decide (N.length = d.ns) && decide (ps.length + 1 = d.np) && d.st
theorem mk_fs {g : Gn} {T : Tb} {p : Pg} {f : Nat} {x qual : Str} {a : Addr} {fd : FuncData} {N ps : List Str} {pv : Str} {st : Stmt} {d : FD} (F : FunD g.K x qual (defArgs st) (defBody st) (defScope st) [] [] a fd) (h : defS T d N ps pv st = true)
    (hb : ∀ us rest : List Value, us.length = ps.length → bindArgs fd ⟨us ++ rest, []⟩ = (newTuple rest >>= fun t => pure (ps.zip us ++ [(pv, t)]))) : FnS g T p g.K f d a := by
  unfold defS at h
  simp only [Bool.and_eq_true] at h
  obtain ⟨⟨⟨⟨h1, h2⟩, h3⟩, h4⟩, h5⟩ := h
  exact ⟨⟨x, qual, _, _, _, N, ps, pv, fd, F, fnScope_ok h2, h1, of_decide_eq_true h3, of_decide_eq_true h4, h5, hb⟩⟩
theorem mk_fn {g : Gn} {T : Tb} {p : Pg} {f : Nat} {x qual : Str} {a : Addr} {fd : FuncData} {N ps : List Str} {st : Stmt} {d : FD} (F : FunD g.K x qual (defArgs st) (defBody st) (defScope st) [] [] a fd) (h : defB T d N ps st = true)
    (bnd : Binds g.K fd ps []) (kw : ∀ np ks pm, T.kw f np ks = some pm → pm.length = ps.length ∧ (∀ i ∈ pm, i < np + ks.length) ∧ KBn g.K fd ps np ks (permL pm) (permL pm)) : FnK g T p g.K f d a fd ps := by
  unfold defB at h
  simp only [Bool.and_eq_true] at h
  obtain ⟨⟨⟨⟨⟨h1, h2⟩, h3⟩, h4⟩, h5⟩, h6⟩ := h
  exact ⟨⟨x, qual, _, _, _, N, F, fnScope_ok h2, h1, of_decide_eq_true h3, of_decide_eq_true h4, by simpa using h5, by simpa using h6⟩, bnd, kw⟩
theorem sp_law {g : Gn} {p : Pg} {lv f : Nat} {ns : List Int} {H : Hp} {a : Addr} {E : XK} (hz : ns.length ≤ sizeLine) (h : ∃ m, callAt p lv f [.p (.scr ns)] [] = .ok (.p (.bl true)) m) (hS : SqL g.K H a (ns.map V.int)) : spL g p lv f 1 [.ref a] H (fun v _ => v = .bl true) E := by
  obtain ⟨m, e⟩ := h
  refine ⟨rfl, [.p (.scr ns)], [], fun _ => 0, H, ⟨Sub.of fun _ _ h => h, fun n o h => ?_, fun n n' ⟨o, h⟩ => ?_⟩, ⟨RP.scr hz hS, trivial⟩, ?_⟩
  · simp at h
  · simp at h
  · rw [e]
    intro v H' ρ' F' x M r
    cases r
    rfl
theorem perm_vals {l : List V} {us : List Value} (r : Vals l us) : ∀ pm : List Nat, Vals (pm.filterMap (l[·]?)) (pm.filterMap (us[·]?))
  | [] => .nil
  | i :: pm => by
    rw [List.filterMap_cons, List.filterMap_cons]
    cases e : l[i]? with
    | none =>
      rw [r.none_of e]
      exact perm_vals r pm
    | some v =>
      obtain ⟨u, e1, r3⟩ := r.get e
      rw [e1]
      exact .cons r3 (perm_vals r pm)
theorem kbn_of {K : PySem.W.Frag} {fd : FuncData} {ps ks : List Str} {np : Nat} {pm : List Nat} (h : ∀ us ws : List Value, us.length = np → ws.length = ks.length → bindArgs fd ⟨us, ks.zip ws⟩ = pure (ps.zip (permL pm us ws))) : KBn K fd ps np ks (permL pm) (permL pm) where
  to := fun s us ws _ h1 h2 => .of_eq (h us ws h1 h2)
  rel := fun {vs us zs ws} r1 r2 => perm_vals (r1.append r2) pm
theorem dn_walk {l : PySem.W.OpenLaw} {n k : Nat} {q : Program} {loose : List Str} {XP : (Str → Option Value) → Heap → Prop} {YP : World → Heap → Prop} {d : DefRec} {x : Str}
    (hn : l.most = some n) (hn2 : n ≤ sizeLine) (hdf : d.params.defaults = []) (hr : Room k callerA)
    (F : ∀ (w : World) (mg : Str → Option Value) (fa : Addr) (h : Heap), YP w h → h.Ns mainGlobals mg → mg d.name = some (.ref fa) →
      ∃ (K : PySem.W.Frag) (fd : FuncData) (sp : Sp), K.In h ∧ (∀ (s : Shared) (u : Value), BindsTo s fd ⟨[u], []⟩ [(x, u)]) ∧
        (∀ (H : Hp) (a : Addr) (ns : List Int), ns.length ≤ n → (∀ k ∈ ns, Builtin.Int.intBits k ≤ 1048576) → SqL K H a (ns.map V.int) → sp [.ref a] H (fun v _ => v = .bl true) fun _ _ _ => False) ∧
        ∀ base : Heap, K.In base → base.Ns mainGlobals mg → FnOk l.prog w K mg base (L2.CX l.prog w) k fa fd [x] sp) :
    PySem.W.WalkO q loose XP YP l.row.toRowW d [] (fun f vs => PySem.call f vs) := by
  refine Att.attach_callB hn hdf fun w s₀ s₁ mg mb fa o pm cd doc a vs ns G Y ho hd hcd hmg hobj hints hlen hbits hg => ?_
  obtain ⟨K, fd, sp, KX, hb, hsp, hF⟩ := F w mg fa _ Y G.T.g hmg
  refine law_call KX G.T.g G.T.b G.T.builtins G.T.nolimit hg hobj hints (Nat.le_trans hlen hn2) hr hF hb (fun H hO hS => hsp H a ns hlen hbits hS) fun H e s' z => ?_
  obtain ⟨_, _, _, _, _, _, _, _, _, _, _, _, z⟩ := z
  exact z

open He (ga ma eqO eqO_ok ba)
namespace Tab
variable (t : Tab)
def kwF (f np : Nat) (ks : List Str) : Option (List Nat) := (t.kw.find? fun q => decide (q.1 = f ∧ q.2.1 = np ∧ q.2.2.1 = ks)).map (·.2.2.2)
def tb : Tb := ⟨fun n => t.fn.lookup n, fun n => t.gl.lookup n, fun n => (t.cl.lookup n).map (·.name), t.kwF, fun n => t.fl.lookup n, fun n => t.mn.lookup n, fun n => t.cn.lookup n, fun n => t.mn.lookup n, fun n => (t.ex.lookup n).map (·.name), fun n => (t.ex.lookup n).bind fun d => d.own.map fun _ => d.name, fun n => (t.ex.lookup n).bind fun d => d.own.bind fun q => q.2.map (·.2.1)⟩
def gvv : Gv := ⟨fun n => (t.gv.lookup n).getD .non, fun c n => (t.cl.lookup c).bind fun d => d.mt.lookup n, fun c n => match t.cl.lookup c with | some d => decide (n ∈ d.fk) | none => false, fun c => (t.cl.lookup c).bind (·.ini),
  fun c n => (t.cl.lookup c).bind fun d => d.cc.lookup n, fun c n => (t.cl.lookup c).bind fun d => d.om.lookup n, fun c n => (t.cl.lookup c).bind fun d => d.sm.lookup n, fun c n => (t.cl.lookup c).bind fun d => d.pr.lookup n,
  fun c => (t.ex.lookup c).bind fun d => d.own.map fun q => (t.kc, q.1, q.2.map (·.1)), fun c x => (t.ex.lookup c).bind fun d => (d.subs.find? fun q => decide (q.1 = x)).map (·.2)⟩
def pg : Pg := ⟨fun n => t.fd.lookup n, t.gvv⟩
def ad (K : PySem.W.Frag) (f : Nat) : Addr := match t.at_.lookup f with | some a => a.ad K | none => 0
def gn (K : PySem.W.Frag) : Gn := ⟨K, fun c => match t.cl.lookup c with | some d => ga K d.name | none => 0, fieldN t.fl, fun c => (t.cl.lookup c).isSome, fun c => match t.ex.lookup c with | some d => ga K d.name | none => 0⟩
/-- the tables agree with themselves -/
def isAt (f : Nat) (a : At → Bool) : Bool := match t.at_.lookup f with | some x => a x | none => false
def atM (C m : Str) : At → Bool
  | .meth D k => decide (D = C) && decide (k = m)
  | _ => false
def atP (C m : Str) : At → Bool
  | .prop D k => decide (D = C) && decide (k = m)
  | _ => false
def atC (C m : Str) : At → Bool
  | .cmet D k => decide (D = C) && decide (k = m)
  | _ => false
def atS (C m : Str) : At → Bool
  | .smet D k => decide (D = C) && decide (k = m)
  | _ => false
def plainCh (x : Str) : Bool := x.cps.all (· < 1114112)
def clOk (d : ClD) : Bool :=
  d.mt.all (fun q => match t.mn.lookup q.1 with | some x => t.isAt q.2 (atM d.name x) && decide (x ∉ t.fl.map (·.2)) && plainCh x | none => false) &&
  (d.pr.all (fun q => match t.mn.lookup q.1 with | some x => t.isAt q.2 (atP d.name x) | none => false) &&
  ((match d.ini with | some f => t.isAt f (atM d.name "__init__") | none => true) &&
  (d.om.all (fun q => t.isAt q.2 (atM d.name (omN q.1))) &&
  d.sm.all (fun q => match t.mn.lookup q.1 with | some x => t.isAt q.2.1 (if q.2.2 = true then atC d.name x else atS d.name x) | none => false))))
def ok : Bool := decide (t.fl.map (·.2)).Nodup && (t.fl.all (fun q => plainCh q.2) && (decide t.names.Nodup && (t.cl.all (fun q => t.clOk q.2) && (t.fn.all (fun q => (match t.at_.lookup q.1 with | some (.glo x) => decide (x = q.2) | _ => false) && (t.fd.lookup q.1).isSome) && t.kw.all (fun q => match t.fd.lookup q.1 with | some d => !d.st | none => true)))))
end Tab
section
variable {t : Tab} {K : PySem.W.Frag} {h : Heap} {mg : Str → Option Value}
theorem lk_mem {α : Type} {l : List (Nat × α)} {n : Nat} {x : α} (h : l.lookup n = some x) : (n, x) ∈ l := mem_lk h
theorem nodup_lk : ∀ {l : List (Nat × Str)}, (l.map (·.2)).Nodup → ∀ {a b : Nat} {x : Str}, l.lookup a = some x → l.lookup b = some x → a = b
  | [], _, _, _, _, h, _ => by cases h
  | (k, v) :: r, hn, a, b, x, h1, h2 => by
    rw [List.map_cons, List.nodup_cons] at hn
    rw [List.lookup_cons] at h1 h2
    by_cases e1 : a = k
    · by_cases e2 : b = k
      · rw [e1, e2]
      · rw [show (a == k) = true by simpa using e1] at h1
        rw [show (b == k) = false by simpa using e2] at h2
        cases h1
        exact absurd (List.mem_map.mpr ⟨_, mem_lk h2, rfl⟩) hn.1
    · rw [show (a == k) = false by simpa using e1] at h1
      by_cases e2 : b = k
      · rw [show (b == k) = true by simpa using e2] at h2
        cases h2
        exact absurd (List.mem_map.mpr ⟨_, mem_lk h1, rfl⟩) hn.1
      · rw [show (b == k) = false by simpa using e2] at h2
        exact nodup_lk hn.2 h1 h2
theorem fresh_ne {x : Str} (h : Tab.plainCh x = true) (n : Nat) : (⟨#[1114112 + n]⟩ : Str) ≠ x := fun z => by
  subst z
  unfold Tab.plainCh at h
  simp at h
  omega
theorem fieldN_inj {l : List (Nat × Str)} (h1 : (l.map (·.2)).Nodup) (h2 : (l.all fun q => Tab.plainCh q.2) = true) : ∀ a b, fieldN l a = fieldN l b → a = b := fun a b e => by
  unfold fieldN at e
  cases ea : l.lookup a with
  | some x =>
    cases eb : l.lookup b with
    | some y =>
      rw [ea, eb] at e
      have e : x = y := e
      subst e
      exact nodup_lk h1 ea eb
    | none =>
      rw [ea, eb] at e
      exact absurd (show (⟨#[1114112 + b]⟩ : Str) = x from e.symm) (fresh_ne (List.all_eq_true.mp h2 _ (mem_lk ea)) b)
  | none =>
    cases eb : l.lookup b with
    | some y =>
      rw [ea, eb] at e
      exact absurd (show (⟨#[1114112 + a]⟩ : Str) = y from e) (fresh_ne (List.all_eq_true.mp h2 _ (mem_lk eb)) a)
    | none =>
      rw [ea, eb] at e
      have e : (⟨#[1114112 + a]⟩ : Str) = ⟨#[1114112 + b]⟩ := e
      simp at e
      exact e
theorem fieldN_ne {l : List (Nat × Str)} {x : Str} (h1 : x ∉ l.map (·.2)) (h2 : Tab.plainCh x = true) : ∀ j, fieldN l j ≠ x := fun j e => by
  unfold fieldN at e
  cases ea : l.lookup j with
  | some y =>
    rw [ea] at e
    have e : y = x := e
    subst e
    exact h1 (List.mem_map.mpr ⟨_, mem_lk ea, rfl⟩)
  | none =>
    rw [ea] at e
    exact fresh_ne h2 j e
theorem isAt_M {f : Nat} {C m : Str} (h : t.isAt f (Tab.atM C m) = true) : t.ad K f = ma K (ga K C) m := by
  unfold Tab.isAt at h
  split at h
  · rename_i a e
    unfold Tab.ad
    rw [e]
    cases a with
    | meth D k =>
      obtain ⟨h1, h2⟩ := ba h
      rw [← of_decide_eq_true h1, ← of_decide_eq_true h2]
      rfl
    | _ => cases h
  · cases h
theorem isAt_P {f : Nat} {C m : Str} (h : t.isAt f (Tab.atP C m) = true) : t.ad K f = He5.wf K (ga K C) "property" m := by
  unfold Tab.isAt at h
  split at h
  · rename_i a e
    unfold Tab.ad
    rw [e]
    cases a with
    | prop D k =>
      obtain ⟨h1, h2⟩ := ba h
      rw [← of_decide_eq_true h1, ← of_decide_eq_true h2]
      rfl
    | _ => cases h
  · cases h
theorem isAt_S {f : Nat} {C m : Str} (h : t.isAt f (Tab.atS C m) = true) : t.ad K f = He5.wf K (ga K C) "staticmethod" m := by
  unfold Tab.isAt at h
  unfold Tab.ad
  split at h
  · rename_i x e
    cases x with
    | smet D k =>
      have h : (decide (D = C) && decide (k = m)) = true := h
      obtain ⟨h1, h2⟩ := ba h
      have h1 := of_decide_eq_true h1
      have h2 := of_decide_eq_true h2
      subst h1 h2
      rfl
    | _ => cases h
  · cases h
theorem isAt_C {f : Nat} {C m : Str} (h : t.isAt f (Tab.atC C m) = true) : t.ad K f = He5.wf K (ga K C) "classmethod" m := by
  unfold Tab.isAt at h
  split at h
  · rename_i a e
    unfold Tab.ad
    rw [e]
    cases a with
    | cmet D k =>
      obtain ⟨h1, h2⟩ := ba h
      rw [← of_decide_eq_true h1, ← of_decide_eq_true h2]
      rfl
    | _ => cases h
  · cases h
/-- what the head says of exceptions -/
theorem facts_ex (fa : t.facts K = true) : (∀ x ∈ Tab.builtL, (He.Fa.free x).ok K = true) ∧ (∀ q ∈ t.ex, t.xcB K q.2 = true) ∧ PySem.W.specialIn K (.builtin "object.__class__") "__get__" = some (some (.builtin "getset_descriptor.__get__")) ∧ PySem.W.takesIn K (.builtin "object.__class__") = some true := by
  unfold Tab.facts at fa
  obtain ⟨f1, fa⟩ := ba fa
  obtain ⟨f2, fa⟩ := ba fa
  obtain ⟨f3, fa⟩ := ba fa
  obtain ⟨f4, fa⟩ := ba fa
  obtain ⟨f5, fa⟩ := ba fa
  obtain ⟨f6, f7⟩ := ba fa
  exact ⟨fun x hx => List.all_eq_true.mp f5 x hx, fun q hq => List.all_eq_true.mp f7 q hq, eqO_ok f1, of_decide_eq_true f2⟩
theorem exc_of (fa : t.facts K = true) {c : Nat} {d : XcD} (hl : t.ex.lookup c = some d) : (He.Fa.glo d.name).ok K = true ∧ ExcC K (ga K d.name) ∧ XfC K (ga K d.name) ∧ (∀ q ∈ d.subs, PySem.W.kitOne K (.ref (ga K d.name)) (t.xtA K q.1) = some q.2) ∧ (∀ q, d.own = some q → t.xmB K (ga K d.name) d.base q.2 = true) := by
  obtain ⟨_, e2, e3, e4⟩ := facts_ex fa
  have z := e2 _ (mem_lk hl)
  unfold Tab.xcB at z
  obtain ⟨x1, z⟩ := ba z
  obtain ⟨x2, z⟩ := ba z
  obtain ⟨x3, z⟩ := ba z
  obtain ⟨x4, z⟩ := ba z
  obtain ⟨x5, z⟩ := ba z
  obtain ⟨x6, z⟩ := ba z
  obtain ⟨x7, z⟩ := ba z
  obtain ⟨x8, x9⟩ := ba z
  refine ⟨x1, ⟨eqO_ok x2, eqO_ok x3, of_decide_eq_true x4, x5, eqO_ok x6, e3, e4, of_decide_eq_true x7⟩, ⟨eqO_ok x2, eqO_ok x3, of_decide_eq_true x4, x5⟩, fun q hq => of_decide_eq_true (List.all_eq_true.mp x8 q hq), fun q hq => ?_⟩
  rw [hq] at x9
  exact x9
theorem xA_of {c : Nat} {d : XcD} (hl : t.ex.lookup c = some d) : (t.gn K).xA c = ga K d.name := by
  show (match t.ex.lookup c with | some d => ga K d.name | none => 0) = _
  rw [hl]
theorem xcok_of {P : Program} {c : Nat} {d : XcD} {lit : Str} {fo : Option (Nat × Str × Str)} {params : Arguments} {body : List Stmt} {scope : Scope} (X : K.In h) (G : h.Ns mainGlobals mg) (hl : t.ex.lookup c = some d) (hm : d.own = some (lit, fo)) (ok : t.exOk = true) (fa : t.facts K = true)
    (he : xiA K (ma K (ga K d.name) "__init__") = some (params, FuncBody.stmts body, scope, mainGlobals, [("__class__" : Str)], builtinsNs)) (st : XSt P t.file params body scope lit (fo.map (·.2))) : XcOk (t.gn K) t.tb P K mg c t.kc lit (fo.map (·.1)) := by
  obtain ⟨x1, x2, x3, _, x5⟩ := exc_of fa hl
  have z := x5 _ hm
  unfold Tab.xmB at z
  obtain ⟨m1, z⟩ := ba z
  obtain ⟨m2, z⟩ := ba z
  obtain ⟨m3, z⟩ := ba z
  obtain ⟨m4, z⟩ := ba z
  obtain ⟨m5, z⟩ := ba z
  obtain ⟨m6, z⟩ := ba z
  obtain ⟨m7, z⟩ := ba z
  obtain ⟨m8, z⟩ := ba z
  obtain ⟨m9, z⟩ := ba z
  obtain ⟨m10, z⟩ := ba z
  obtain ⟨m11, z⟩ := ba z
  obtain ⟨m12, z⟩ := ba z
  obtain ⟨m13, m14⟩ := ba z
  have o := (ba (List.all_eq_true.mp ok _ (mem_lk hl))).2
  dsimp only at o
  rw [hm] at o
  obtain ⟨o1, o⟩ := ba o
  obtain ⟨o2, o3⟩ := ba o
  have hC := xA_of (K := K) hl
  refine ⟨⟨fo.map (·.2), params, body, scope, ma K (ga K d.name) "__init__", ?_, ?_⟩, of_decide_eq_true o2, Nat.le_trans (of_decide_eq_true o1) (by rw [PySem.sizeLine_eq]; decide), by rw [hC]; exact x3⟩
  · cases fo with
    | none => trivial
    | some q =>
      obtain ⟨f, x, n⟩ := q
      obtain ⟨o4, o5⟩ := ba o3
      refine ⟨of_decide_eq_true o4, ?_⟩
      show ((t.ex.lookup c).bind fun d => d.own.bind fun q => q.2.map (·.2.1)) = some x
      rw [hl, Option.bind_some, hm]
      rfl
  · rw [hC]
    refine ⟨st.S, ⟨?_, of_decide_eq_true m7, eqO_ok m8, eqO_ok m9, eqO_ok m10, of_decide_eq_true m11, ?_, eqO_ok m13, fun x f e => ?_, st.top⟩, m1, ?_, x2.hs, of_decide_eq_true m2, st.b0, st.b1, st.bk⟩
    · refine ⟨_, _, _, _, bse_of d.base, m3, ?_, eqO_ok m5, of_decide_eq_true m6⟩
      split at m4
      · rename_i cd e
        obtain ⟨k1, k2⟩ := ba m4
        rw [xTail_eq] at k1
        exact ⟨cd, e, k1, k2⟩
      · cases m4
    · obtain ⟨oc, od, osl, name, qual, kV, doc, pm, an, cda, ct, cc, k1, k2, ⟨ccl, cdd, vs, ccs, fl, tf, q1, q2, q3⟩, k4⟩ := xi_ok he m12
      exact ⟨oc, od, osl, name, qual, kV, doc, pm, an, cda, ct, cc, k1, k2, ⟨ccl, cdd, vs, ccs, fl, tf, q1, q2, by rw [st.file]; exact q3⟩, k4⟩
    · cases fo with
      | none => cases e
      | some q =>
        obtain ⟨f', x', n⟩ := q
        cases e
        obtain ⟨o4, o5⟩ := ba o3
        exact ⟨eqO_ok m14, of_decide_eq_true o5⟩
    · exact He.free_ok X G ((facts_ex fa).1 (Str.ofString "super") (by decide))
/-- .. of each, by the hook's list -/
theorem saysX_at {xl : List XiA} (c : SaysX xl K) (i : Nat) {d : XiA} (h : xl[i]? = some d := by rfl) : xiA K (ma K (ga K d.cls) "__init__") = some (d.params, FuncBody.stmts d.body, d.scope, mainGlobals, [("__class__" : Str)], builtinsNs) := by
  have e2 : (xl.map fun d => d.at_ K)[i]? = (xl.map XiA.val)[i]? := by rw [show xl.map (fun d => d.at_ K) = xl.map XiA.val from c]
  rw [List.getElem?_map, List.getElem?_map, h] at e2
  exact Option.some.inj e2
theorem base_of {P : Program} (X : K.In h) (G : h.Ns mainGlobals mg) (ok : t.ok = true) (xok : t.exOk = true) (fa : t.facts K = true) (hxc : ∀ c d lit fo, t.ex.lookup c = some d → d.own = some (lit, fo) → XcOk (t.gn K) t.tb P K mg c t.kc lit (fo.map (·.1))) (hfd : ∀ f d, t.fd.lookup f = some d → (∃ fd ps, FnK (t.gn K) t.tb t.pg K f d (t.ad K f) fd ps) ∨ FnS (t.gn K) t.tb t.pg K f d (t.ad K f)) : Base (t.gn K) t.tb t.pg mg (t.ad K) P := by
  have fa0 := fa
  unfold Tab.ok at ok
  obtain ⟨o1, ok⟩ := ba ok
  obtain ⟨o2, ok⟩ := ba ok
  obtain ⟨o3, ok⟩ := ba ok
  obtain ⟨o4, ok⟩ := ba ok
  obtain ⟨o5, o6⟩ := ba ok
  have o1 := of_decide_eq_true o1
  have o3 := of_decide_eq_true o3
  unfold Tab.facts at fa
  obtain ⟨f1, fa⟩ := ba fa
  obtain ⟨f2, fa⟩ := ba fa
  obtain ⟨f3, fa⟩ := ba fa
  obtain ⟨f4, fa⟩ := ba fa
  obtain ⟨f5, fa⟩ := ba fa
  obtain ⟨f6, _⟩ := ba fa
  have cA : ∀ {c : Nat} {d : ClD}, t.cl.lookup c = some d → (t.gn K).cA c = ga K d.name := fun {c d} e => by
    show (match t.cl.lookup c with | some d => ga K d.name | none => 0) = _
    rw [e]
  have cls : ∀ {c : Nat}, (t.gn K).cs c = true → ∃ d, t.cl.lookup c = some d := fun {c} e => Option.isSome_iff_exists.mp e
  have clO : ∀ {c : Nat} {d : ClD}, t.cl.lookup c = some d → t.clOk d = true := fun {c d} e => List.all_eq_true.mp o4 _ (mem_lk e)
  have clF : ∀ {c : Nat} {d : ClD}, t.cl.lookup c = some d → (He.Fa.glo d.name).ok K = true ∧ t.clsB K d = true := fun {c d} e => ba (List.all_eq_true.mp f3 _ (mem_lk e))
  have nm : ∀ {c c' : Nat} {d d' : ClD}, t.cl.lookup c = some d → t.cl.lookup c' = some d' → d.name = d'.name → c = c' := fun {c c' d d'} e1 e2 z => by
    have k1 : (t.cl.map fun q => (q.1, q.2.name)).lookup c = some d.name := by
      have : ∀ l : List (Nat × ClD), (l.map fun q => (q.1, q.2.name)).lookup c = (l.lookup c).map (·.name) := by
        intro l
        induction l with
        | nil => rfl
        | cons a l ih =>
          rw [List.map_cons, List.lookup_cons, List.lookup_cons]
          cases (c == a.1) <;> simp [ih]
      rw [this, e1]; rfl
    have k2 : (t.cl.map fun q => (q.1, q.2.name)).lookup c' = some d'.name := by
      have : ∀ l : List (Nat × ClD), (l.map fun q => (q.1, q.2.name)).lookup c' = (l.lookup c').map (·.name) := by
        intro l
        induction l with
        | nil => rfl
        | cons a l ih =>
          rw [List.map_cons, List.lookup_cons, List.lookup_cons]
          cases (c' == a.1) <;> simp [ih]
      rw [this, e2]; rfl
    rw [← z] at k2
    refine nodup_lk (l := t.cl.map fun q => (q.1, q.2.name)) ?_ k1 k2
    rw [List.map_map]
    exact o3
  have P : ∀ {c : Nat} {d : ClD}, t.cl.lookup c = some d → (He.Fa.cls d.name).ok K = true ∧ PySem.W.findIn K (.ref (ga K d.name)) "__class__" = some (some (.builtin "object.__class__")) ∧ PySem.W.mroIn K (ga K d.name) (.type "object") = some true ∧
      (∀ s ∈ bts, PySem.W.kitOne K (.type s) (.ref (ga K d.name)) = some false) ∧ (∀ s ∈ bts, PySem.W.kitOne K (.ref (ga K d.name)) (.type s) = some false) ∧
      (∀ n ∈ t.names, PySem.W.kitOne K (.ref (ga K n)) (.ref (ga K d.name)) = some (decide (d.name = n)) ∧ PySem.W.notFirst K (ga K d.name) (.ref (ga K n)) = true) ∧
      (∀ n ∈ d.fk, NoAttr K (ga K d.name) (fieldN t.fl n)) ∧
      (∀ q ∈ d.mt, ∃ x, t.mn.lookup q.1 = some x ∧ (He.Fa.meth d.name x).ok K = true) ∧
      (∀ q ∈ d.om, (He.Fa.meth d.name (omN q.1)).ok K = true ∧ (q.1 = 3 → PySem.W.findIn K (.ref (ga K d.name)) "__ne__" = some (some (.builtin "object.__ne__")))) ∧
      (∀ f, d.ini = some f → (He.Fa.mkr d.name).ok K = true) ∧
      (∀ q ∈ d.pr, ∃ x, t.mn.lookup q.1 = some x ∧ PropOf K (ga K d.name) x (ma K (ga K d.name) x) (He5.wf K (ga K d.name) "property" x)) ∧
      ((d.cc ≠ [] ∨ d.sm ≠ []) → ClX.CRead K (ga K d.name) (.type "type")) ∧
      (∀ q ∈ d.cc, ∃ x i, t.cn.lookup q.1 = some x ∧ q.2 = .int i ∧ ∃ u, ClX.CVal K (ga K d.name) (.type "type") x (.int i) u) ∧
      (∀ q ∈ d.sm, ∃ x, t.mn.lookup q.1 = some x ∧ ((q.2.2 = true ∧ ClX.CMet K (ga K d.name) (.type "type") x (ma K (ga K d.name) x) (He5.wf K (ga K d.name) "classmethod" x)) ∨ (q.2.2 = false ∧ SMet K (ga K d.name) (.type "type") x (ma K (ga K d.name) x) (He5.wf K (ga K d.name) "staticmethod" x)))) := fun {c d} e => by
    have z := (clF e).2
    unfold Tab.clsB at z
    obtain ⟨z1, z⟩ := ba z
    obtain ⟨z2, z⟩ := ba z
    obtain ⟨z3, z⟩ := ba z
    obtain ⟨z4, z⟩ := ba z
    obtain ⟨z5, z⟩ := ba z
    obtain ⟨z6, z⟩ := ba z
    obtain ⟨z7, z⟩ := ba z
    obtain ⟨z8, z⟩ := ba z
    obtain ⟨z9, z⟩ := ba z
    obtain ⟨z10, z⟩ := ba z
    obtain ⟨z11, z⟩ := ba z
    obtain ⟨z12, z⟩ := ba z
    obtain ⟨z13, z14⟩ := ba z
    refine ⟨z1, eqO_ok z2, of_decide_eq_true z3, fun s hs => of_decide_eq_true (List.all_eq_true.mp z4 s hs), fun s hs => of_decide_eq_true (List.all_eq_true.mp z5 s hs), fun n hn => ?_, fun n hn => He.noat_ok (List.all_eq_true.mp z7 n hn), fun q hq => ?_, fun q hq => ?_, fun f hf => ?_, fun q hq => ?_, fun hne => ?_, fun q hq => ?_, fun q hq => ?_⟩
    · obtain ⟨q1, q2⟩ := ba (List.all_eq_true.mp z6 n hn)
      exact ⟨of_decide_eq_true q1, q2⟩
    · have := List.all_eq_true.mp z8 q hq
      split at this
      · rename_i x ex; exact ⟨x, ex, this⟩
      · cases this
    · obtain ⟨q1, q2⟩ := ba (List.all_eq_true.mp z9 q hq)
      refine ⟨q1, fun e3 => ?_⟩
      rw [e3] at q2
      exact eqO_ok (by simpa using q2)
    · rw [hf] at z10; exact z10
    · have := List.all_eq_true.mp z11 q hq
      split at this
      · rename_i x ex
        obtain ⟨q1, this⟩ := ba this
        obtain ⟨q2, this⟩ := ba this
        obtain ⟨q3, q4⟩ := ba this
        refine ⟨x, ex, eqO_ok q1, eqO_ok q2, of_decide_eq_true q3, ?_⟩
        unfold He5.wf
        split at q4
        · rename_i a r er
          exact ⟨r, by rw [er]⟩
        · cases q4
      · cases this
    · have hr : PySem.W.readsIn K (ga K d.name) (.type "type") = true := by
        rcases Bool.or_eq_true_iff.mp z12 with q | q
        · obtain ⟨q1, q2⟩ := ba q
          rcases hne with w | w
          · exact absurd (by simpa using q1) w
          · exact absurd (by simpa using q2) w
        · exact q
      refine ⟨hr, ?_⟩
      have h := hr
      unfold PySem.W.readsIn at h
      obtain ⟨h, _⟩ := ba h
      obtain ⟨h, _⟩ := ba h
      obtain ⟨h, h3⟩ := ba h
      obtain ⟨_, h2⟩ := ba h
      unfold PySem.W.specialIn
      rw [beq_iff_eq.mp h2, Option.bind_some]
      exact beq_iff_eq.mp h3
    · have := List.all_eq_true.mp z13 q hq
      split at this
      · rename_i x i ex ei
        split at this
        · rename_i j tk ej
          have := of_decide_eq_true this
          subst this
          exact ⟨x, j, ex, ei, _, ⟨ej, ⟨_, rfl⟩⟩⟩
        · cases this
      · cases this
    · have := List.all_eq_true.mp z14 q hq
      split at this
      · rename_i x ex
        split at this
        · rename_i hb
          obtain ⟨q1, q2⟩ := ba this
          exact ⟨x, ex, .inl ⟨hb, He5.cmet_of q1 q2⟩⟩
        · rename_i hb
          obtain ⟨q1, q2⟩ := ba this
          obtain ⟨w1, w2⟩ := He5.wrapB_ok q1
          exact ⟨x, ex, .inr ⟨by simpa using hb, w1, w2, q2⟩⟩
      · cases this
  have bind2 : ∀ {α : Type} {c : Nat} {o : ClD → Option α} {x : α}, (t.cl.lookup c).bind o = some x → ∃ d, t.cl.lookup c = some d ∧ o d = some x := fun {α c o x} e => Option.bind_eq_some_iff.mp e
  exact {
    kf := {
      inj := fieldN_inj o1 o2
      cls := fun c hc => by
        obtain ⟨d, e⟩ := cls hc
        rw [cA e]; exact He.cls_ok (P e).1
      nf := fun c c' hc hc' => by
        obtain ⟨d, e⟩ := cls hc
        obtain ⟨d', e'⟩ := cls hc'
        rw [cA e, cA e']
        exact ((P e).2.2.2.2.2.1 d'.name (List.mem_map.mpr ⟨_, mem_lk e', rfl⟩)).2
      co := fun c hc => by
        obtain ⟨d, e⟩ := cls hc
        rw [cA e]; exact (P e).2.1
      cg := fun c hc => eqO_ok f1
      ct := fun c hc => of_decide_eq_true f2
      cm := fun c hc => by
        obtain ⟨d, e⟩ := cls hc
        rw [cA e]; exact (P e).2.2.1
      k1 := fun c hc s hs => by
        obtain ⟨d, e⟩ := cls hc
        rw [cA e]; exact (P e).2.2.2.1 s hs
      k2 := fun c c' hc hc' => by
        obtain ⟨d, e⟩ := cls hc
        obtain ⟨d', e'⟩ := cls hc'
        rw [cA e, cA e']
        have := ((P e).2.2.2.2.2.1 d'.name (List.mem_map.mpr ⟨_, mem_lk e', rfl⟩)).1
        rw [show (t.gn K).K = K from rfl, this]
        congr 1
        by_cases z : c = c'
        · subst z
          rw [e] at e'
          cases e'
          simp
        · have : d.name ≠ d'.name := fun w => z (nm e e' w)
          simp [z, this]
      k3 := fun c hc s hs => by
        obtain ⟨d, e⟩ := cls hc
        rw [cA e]; exact (P e).2.2.2.2.1 s hs }
    bl := fun x hx => by
      refine He.free_ok X G (List.all_eq_true.mp f5 (Str.ofString x) ?_)
      have : Tab.builtL = (["isinstance", "range", "zip", "len", "int", "abs", "list", "tuple", "all", "any", "sum", "str", "bool", "dict", "enumerate", "sorted", "min", "max", "set", "type", "repr", "super", "ValueError", "LookupError", "IndexError"] : List String).map Str.ofString := rfl
      rw [this]
      exact List.mem_map.mpr ⟨x, hx, rfl⟩
    gl := fun n x hx => by
      have z := List.all_eq_true.mp f6 _ (mem_lk hx)
      show ∃ v u, mg x = some u ∧ RelV v u ∧ ∀ F, RP (t.gn K) F ((t.gv.lookup n).getD .non) v
      unfold Tab.glB at z
      split at z
      · rename_i i ei
        obtain ⟨tk, e⟩ := He.int_ok X G z
        have ei : (t.gv.lookup n).getD .non = .int i := ei
        exact ⟨.int i, _, e, ⟨tk, rfl⟩, fun F => by rw [ei]; exact RP.int i⟩
      · rename_i s es
        obtain ⟨z1, z2⟩ := ba z
        obtain ⟨tk, e⟩ := He.str_ok X G z1
        have es : (t.gv.lookup n).getD .non = .str s := es
        exact ⟨.str s, _, e, ⟨tk, rfl⟩, fun F => by rw [es]; exact RP.str s (Nat.le_trans (of_decide_eq_true z2) (by rw [PySem.sizeLine_eq]; decide))⟩
      · cases z
    cn := fun n x hx => by
      obtain ⟨d, e, rfl⟩ := Option.map_eq_some_iff.mp (show (t.cl.lookup n).map (·.name) = some x from hx)
      refine ⟨?_, ?_⟩
      · rw [cA e]; exact He.glo_ok X G (clF e).1
      · show (t.cl.lookup n).isSome = true
        rw [e]; rfl
    fd := hfd
    fn := fun f x hx => by
      have z := List.all_eq_true.mp o5 _ (mem_lk hx)
      obtain ⟨z1, z2⟩ := ba z
      obtain ⟨dd, hdd⟩ := Option.isSome_iff_exists.mp z2
      refine ⟨?_, ?_, dd, hdd⟩
      case refine_2 =>
        rcases hfd f dd hdd with ⟨_, _, k⟩ | k
        · obtain ⟨_, _, _, _, _, _, e2', _⟩ := k.ex
          exact e2'.kp
        · obtain ⟨_, _, _, _, _, _, _, _, _, e2', _⟩ := k.ex
          exact e2'.kp
      have g1 := He.glo_ok X G (List.all_eq_true.mp f4 _ (mem_lk hx))
      rw [g1]
      split at z1
      · rename_i y ey
        have := of_decide_eq_true z1
        have ea : t.ad K f = ga K y := by unfold Tab.ad; rw [show t.at_.lookup f = some (.glo y) from ey]; rfl
        rw [ea, this]
      · cases z1
    fl := fun n x hx => by
      show fieldN t.fl n = x
      unfold fieldN
      rw [show t.fl.lookup n = some x from hx]; rfl
    fk := fun c n hn => by
      have hn : (match t.cl.lookup c with | some d => decide (n ∈ d.fk) | none => false) = true := hn
      split at hn
      · rename_i d e
        rw [cA e]
        exact (P e).2.2.2.2.2.2.1 n (of_decide_eq_true hn)
      · cases hn
    mt := fun c n f x h1 h2 => by
      obtain ⟨d, e, em⟩ := bind2 h1
      have h2 : t.mn.lookup n = some x := h2
      have o := clO e
      unfold Tab.clOk at o
      have o := List.all_eq_true.mp (ba o).1 _ (mem_lk em)
      dsimp only at o
      rw [h2] at o
      obtain ⟨o, q3⟩ := ba o
      obtain ⟨q1, q2⟩ := ba o
      refine ⟨fieldN_ne (of_decide_eq_true q2) q3, ?_⟩
      obtain ⟨x', e1, e2⟩ := (P e).2.2.2.2.2.2.2.1 _ (mem_lk em)
      rw [h2] at e1
      cases e1
      rw [cA e, isAt_M q1]
      exact He.meth_ok e2
    pr := fun c n f x h1 h2 => by
      obtain ⟨d, e, em⟩ := bind2 h1
      have h2 : t.mn.lookup n = some x := h2
      have o := clO e
      unfold Tab.clOk at o
      have o := List.all_eq_true.mp (ba (ba o).2).1 _ (mem_lk em)
      dsimp only at o
      rw [h2] at o
      obtain ⟨x', e1, e2⟩ := (P e).2.2.2.2.2.2.2.2.2.2.1 _ (mem_lk em)
      rw [h2] at e1
      cases e1
      refine ⟨ma K (ga K d.name) x, ?_⟩
      rw [cA e, isAt_P o]
      exact e2
    ini := fun c f h1 => by
      obtain ⟨d, e, em⟩ := bind2 h1
      refine ⟨by show (t.cl.lookup c).isSome = true; rw [e]; rfl, ?_⟩
      have o := clO e
      unfold Tab.clOk at o
      have o := (ba (ba (ba o).2).2).1
      rw [em] at o
      rw [cA e, isAt_M o]
      exact He.mkr_ok ((P e).2.2.2.2.2.2.2.2.2.1 f em)
    om := fun c k f h1 => by
      obtain ⟨d, e, em⟩ := bind2 h1
      have o := clO e
      unfold Tab.clOk at o
      have o := List.all_eq_true.mp (ba (ba (ba (ba o).2).2).2).1 _ (mem_lk em)
      have mk := He.meth_ok ((P e).2.2.2.2.2.2.2.2.1 _ (mem_lk em)).1
      rw [cA e, isAt_M o]
      exact ⟨mk.at_, mk.fn⟩
    one := fun c f h1 => by
      obtain ⟨d, e, em⟩ := bind2 h1
      rw [cA e]
      exact ((P e).2.2.2.2.2.2.2.2.1 _ (mem_lk em)).2 rfl
    cc := fun c n x y h1 h2 => by
      obtain ⟨d, e, em⟩ := bind2 h1
      have h2 : t.cn.lookup n = some x := h2
      obtain ⟨x', i, e1, e2, u, e3⟩ := (P e).2.2.2.2.2.2.2.2.2.2.2.2.1 _ (mem_lk em)
      rw [h2] at e1
      cases e1
      have e2 : y = .int i := e2
      subst e2
      rw [cA e]
      exact ⟨.type "type", .int i, u, (P e).2.2.2.2.2.2.2.2.2.2.2.1 (.inl (List.ne_nil_of_mem (mem_lk em))), e3, fun F => RP.int i⟩
    sm := fun c n f b x h1 h2 => by
      obtain ⟨d, e, em⟩ := bind2 h1
      have h2 : t.mn.lookup n = some x := h2
      have o := clO e
      unfold Tab.clOk at o
      have o := List.all_eq_true.mp (ba (ba (ba (ba o).2).2).2).2 _ (mem_lk em)
      dsimp only at o
      rw [h2] at o
      dsimp only at o
      obtain ⟨x', e1, e2⟩ := (P e).2.2.2.2.2.2.2.2.2.2.2.2.2 _ (mem_lk em)
      rw [h2] at e1
      cases e1
      refine ⟨.type "type", ma K (ga K d.name) x, by rw [cA e]; exact (P e).2.2.2.2.2.2.2.2.2.2.2.1 (.inr (List.ne_nil_of_mem (mem_lk em))), ?_⟩
      rcases e2 with ⟨hb, e2⟩ | ⟨hb, e2⟩
      · have hb : b = true := hb
        rw [if_pos hb] at o
        refine .inl ⟨hb, ?_⟩
        rw [cA e, isAt_C o]
        exact e2
      · have hb : b = false := hb
        rw [if_neg (by rw [hb]; decide)] at o
        refine .inr ⟨hb, ?_⟩
        rw [cA e, isAt_S o]
        exact e2
    kwn := fun f np ks pm h1 d hf => by
      rcases hfd f d hf with q | q
      · exact q
      · obtain ⟨_, _, _, _, _, _, _, _, _, _, _, _, _, _, st, _⟩ := q.ex
        obtain ⟨q', hq, _⟩ := Option.map_eq_some_iff.mp (show (t.kw.find? fun q => decide (q.1 = f ∧ q.2.1 = np ∧ q.2.2.1 = ks)).map (·.2.2.2) = some pm from h1)
        have m := List.mem_of_find?_eq_some hq
        have e : (decide (q'.1 = f ∧ q'.2.1 = np ∧ q'.2.2.1 = ks)) = true := List.find?_some (p := fun q : Nat × Nat × List Str × List Nat => decide (q.1 = f ∧ q.2.1 = np ∧ q.2.2.1 = ks)) hq
        have e := of_decide_eq_true e
        have z := List.all_eq_true.mp o6 _ m
        rw [e.1, show t.fd.lookup f = some d from hf] at z
        dsimp only at z
        rw [st] at z
        cases z
    xn := fun n x hx => by
      obtain ⟨d, e, rfl⟩ := Option.map_eq_some_iff.mp (show (t.ex.lookup n).map (·.name) = some x from hx)
      rw [xA_of e]
      exact He.glo_ok X G (exc_of fa0 e).1
    xm := fun n x hx => by
      obtain ⟨d, e, hx⟩ := Option.bind_eq_some_iff.mp (show (t.ex.lookup n).bind (fun d => d.own.map fun _ => d.name) = some x from hx)
      obtain ⟨q, eq, rfl⟩ := Option.map_eq_some_iff.mp hx
      refine ⟨by rw [xA_of e]; exact He.glo_ok X G (exc_of fa0 e).1, ?_⟩
      show ((t.ex.lookup n).bind fun d => d.own.map fun q => (t.kc, q.1, q.2.map (·.1))).isSome = true
      rw [e, Option.bind_some, eq]
      rfl
    xc := fun c k z fo hx => by
      obtain ⟨d, e, hx⟩ := Option.bind_eq_some_iff.mp (show (t.ex.lookup c).bind (fun d => d.own.map fun q => (t.kc, q.1, q.2.map (·.1))) = some (k, z, fo) from hx)
      obtain ⟨⟨lit, fo'⟩, eq, hx⟩ := Option.map_eq_some_iff.mp hx
      cases hx
      exact hxc c d lit fo' e eq
    xpn := fun n x hx => by
      obtain ⟨d, e, hx⟩ := Option.bind_eq_some_iff.mp (show (t.ex.lookup n).bind (fun d => d.own.bind fun q => q.2.map (·.2.1)) = some x from hx)
      obtain ⟨⟨lit, fo⟩, eq, hx⟩ := Option.bind_eq_some_iff.mp hx
      obtain ⟨w, ew, _⟩ := Option.map_eq_some_iff.mp hx
      show (((t.ex.lookup n).bind fun d => d.own.map fun q => (t.kc, q.1, q.2.map (·.1))).bind (·.2.2)).isSome = true
      rw [e, Option.bind_some, eq]
      have ew : fo = some w := ew
      rw [ew]
      rfl
    xsub := fun c x b hx => by
      obtain ⟨d, e, hx⟩ := Option.bind_eq_some_iff.mp (show (t.ex.lookup c).bind (fun d => (d.subs.find? fun q => decide (q.1 = x)).map (·.2)) = some b from hx)
      obtain ⟨q, eq, rfl⟩ := Option.map_eq_some_iff.mp hx
      have hq : q.1 = x := of_decide_eq_true (List.find?_some (p := fun q : XT × Bool => decide (q.1 = x)) eq)
      obtain ⟨_, e2, _, e4, _⟩ := exc_of fa0 e
      have hm := List.mem_of_find?_eq_some eq
      have k := e4 q hm
      rw [xA_of e]
      refine ⟨e2, ?_⟩
      have o := List.all_eq_true.mp (ba (List.all_eq_true.mp xok _ (mem_lk e))).1 q hm
      show PySem.W.kitOne K (.ref (ga K d.name)) (xtU (t.gn K) x) = some q.2
      rw [← k, ← hq]
      congr 1
      cases hx : q.1 with
      | blt n => rfl
      | own c' =>
        rw [hx] at o
        obtain ⟨d', ed⟩ := Option.isSome_iff_exists.mp o
        show Value.ref ((t.gn K).xA c') = (match t.ex.lookup c' with | some d => Value.ref (ga K d.name) | none => Value.none)
        rw [xA_of ed, ed] }
end
theorem kw_all {t : Tab} {f : Nat} {C : Nat → List Str → List Nat → Prop} (hc : ∀ q ∈ t.kw, q.1 = f → C q.2.1 q.2.2.1 q.2.2.2) : ∀ np ks pm, t.tb.kw f np ks = some pm → C np ks pm := by
  intro np ks pm h
  have h : (t.kw.find? fun q => decide (q.1 = f ∧ q.2.1 = np ∧ q.2.2.1 = ks)).map (·.2.2.2) = some pm := h
  obtain ⟨q, e1, rfl⟩ := Option.map_eq_some_iff.mp h
  have e2 := List.find?_some e1
  obtain ⟨rfl, rfl, rfl⟩ := of_decide_eq_true e2
  exact hc q (List.mem_of_find?_eq_some e1) rfl
end Dn

namespace Law
open Dn PySem PySem.Spec PyProof.Rows L2
noncomputable section
abbrev pg : Pg := tab.pg
theorem tab_ok : tab.ok = true := by kernel_rfl
theorem c7 : defB tab.tb D_law_v3 n7 p7 st7 = true := by kernel_rfl
theorem c101 : defB tab.tb D__law_sorts n101 p101 st101 = true := by kernel_rfl
theorem c5 : defB tab.tb D__law_same n5 p5 st5 = true := by kernel_rfl
theorem c102 : defB tab.tb D__law_field n102 p102 st102 = true := by kernel_rfl
theorem c103 : defB tab.tb D__law_errors n103 p103 st103 = true := by kernel_rfl
theorem c104 : defB tab.tb D__law_codes n104 p104 st104 = true := by kernel_rfl
theorem c4 : defB tab.tb D__law_of n4 p4 st4 = true := by kernel_rfl
theorem c3 : defB tab.tb D__law_pull n3 p3 st3 = true := by kernel_rfl
theorem c2 : defB tab.tb D__law_bag n2 p2 st2 = true := by kernel_rfl
theorem xs2 : XSt prog tab.file (defArgs xst2) (defBody xst2) (defScope xst2) "NothingLeft" none :=
  XSt.mk (xshB_ok (by kernel_rfl)) (fun _ => by intros; rfl) (fun x f e => by cases e) (fun x f e => by cases e) (by kernel_rfl) rfl
theorem xs3 : XSt prog tab.file (defArgs xst3) (defBody xst3) (defScope xst3) "UnknownName" (some ("value", "value")) :=
  XSt.mk (xshB_ok (by kernel_rfl)) (fun e => by cases e) (fun x f e => by cases e; intros; rfl) (fun x f e => by cases e; intros; rfl) (by kernel_rfl) rfl
theorem xs4 : XSt prog tab.file (defArgs xst4) (defBody xst4) (defScope xst4) "CapacityExceeded" (some ("limit", "limit")) :=
  XSt.mk (xshB_ok (by kernel_rfl)) (fun e => by cases e) (fun x f e => by cases e; intros; rfl) (fun x f e => by cases e; intros; rfl) (by kernel_rfl) rfl
theorem xs5 : XSt prog tab.file (defArgs xst5) (defBody xst5) (defScope xst5) "TooLong" (some ("most", "most")) :=
  XSt.mk (xshB_ok (by kernel_rfl)) (fun e => by cases e) (fun x f e => by cases e; intros; rfl) (fun x f e => by cases e; intros; rfl) (by kernel_rfl) rfl
theorem xs6 : XSt prog tab.file (defArgs xst6) (defBody xst6) (defScope xst6) "TooGreat" (some ("most", "most")) :=
  XSt.mk (xshB_ok (by kernel_rfl)) (fun e => by cases e) (fun x f e => by cases e; intros; rfl) (fun x f e => by cases e; intros; rfl) (by kernel_rfl) rfl
theorem xs7 : XSt prog tab.file (defArgs xst7) (defBody xst7) (defScope xst7) "Unlike" none :=
  XSt.mk (xshB_ok (by kernel_rfl)) (fun _ => by intros; rfl) (fun x f e => by cases e) (fun x f e => by cases e) (by kernel_rfl) rfl
theorem xs8 : XSt prog tab.file (defArgs xst8) (defBody xst8) (defScope xst8) "DuplicateName" (some ("value", "value")) :=
  XSt.mk (xshB_ok (by kernel_rfl)) (fun e => by cases e) (fun x f e => by cases e; intros; rfl) (fun x f e => by cases e; intros; rfl) (by kernel_rfl) rfl
theorem xs9 : XSt prog tab.file (defArgs xst9) (defBody xst9) (defScope xst9) "InvalidCommand" (some ("index", "index")) :=
  XSt.mk (xshB_ok (by kernel_rfl)) (fun e => by cases e) (fun x f e => by cases e; intros; rfl) (fun x f e => by cases e; intros; rfl) (by kernel_rfl) rfl
theorem xs10 : XSt prog tab.file (defArgs xst10) (defBody xst10) (defScope xst10) "InvalidLimit" (some ("value", "value")) :=
  XSt.mk (xshB_ok (by kernel_rfl)) (fun e => by cases e) (fun x f e => by cases e; intros; rfl) (fun x f e => by cases e; intros; rfl) (by kernel_rfl) rfl
theorem xs11 : XSt prog tab.file (defArgs xst11) (defBody xst11) (defScope xst11) "InvalidWord" (some ("value", "value")) :=
  XSt.mk (xshB_ok (by kernel_rfl)) (fun e => by cases e) (fun x f e => by cases e; intros; rfl) (fun x f e => by cases e; intros; rfl) (by kernel_rfl) rfl
theorem xs12 : XSt prog tab.file (defArgs xst12) (defBody xst12) (defScope xst12) "InvalidNumber" (some ("value", "value")) :=
  XSt.mk (xshB_ok (by kernel_rfl)) (fun e => by cases e) (fun x f e => by cases e; intros; rfl) (fun x f e => by cases e; intros; rfl) (by kernel_rfl) rfl
theorem xs13 : XSt prog tab.file (defArgs xst13) (defBody xst13) (defScope xst13) "InvalidThing" (some ("value", "value")) :=
  XSt.mk (xshB_ok (by kernel_rfl)) (fun e => by cases e) (fun x f e => by cases e; intros; rfl) (fun x f e => by cases e; intros; rfl) (by kernel_rfl) rfl
theorem xs14 : XSt prog tab.file (defArgs xst14) (defBody xst14) (defScope xst14) "InvalidText" (some ("line", "line")) :=
  XSt.mk (xshB_ok (by kernel_rfl)) (fun e => by cases e) (fun x f e => by cases e; intros; rfl) (fun x f e => by cases e; intros; rfl) (by kernel_rfl) rfl
theorem xs15 : XSt prog tab.file (defArgs xst15) (defBody xst15) (defScope xst15) "InvalidRule" (some ("part", "part")) :=
  XSt.mk (xshB_ok (by kernel_rfl)) (fun e => by cases e) (fun x f e => by cases e; intros; rfl) (fun x f e => by cases e; intros; rfl) (by kernel_rfl) rfl
theorem xs16 : XSt prog tab.file (defArgs xst16) (defBody xst16) (defScope xst16) "InvalidTable" (some ("part", "part")) :=
  XSt.mk (xshB_ok (by kernel_rfl)) (fun e => by cases e) (fun x f e => by cases e; intros; rfl) (fun x f e => by cases e; intros; rfl) (by kernel_rfl) rfl
theorem xs17 : XSt prog tab.file (defArgs xst17) (defBody xst17) (defScope xst17) "InvalidSignature" (some ("part", "part")) :=
  XSt.mk (xshB_ok (by kernel_rfl)) (fun e => by cases e) (fun x f e => by cases e; intros; rfl) (fun x f e => by cases e; intros; rfl) (by kernel_rfl) rfl
theorem xs18 : XSt prog tab.file (defArgs xst18) (defBody xst18) (defScope xst18) "InvalidName" (some ("value", "value")) :=
  XSt.mk (xshB_ok (by kernel_rfl)) (fun e => by cases e) (fun x f e => by cases e; intros; rfl) (fun x f e => by cases e; intros; rfl) (by kernel_rfl) rfl
theorem ex_ok : tab.exOk = true := by kernel_rfl
section
variable {w : World} {K : PySem.W.Frag} {h : Heap} {mg : Str → Option Value}
theorem f7 (c : He5.SaysA [] fnl K) : ∃ fd, FnK (tab.gn K) tab.tb pg K 7 D_law_v3 (tab.ad K 7) fd p7 ∧ ∀ (s : Shared) (u : Value), BindsTo s fd ⟨[u], []⟩ [(("_law_script" : Str), u)] := by
  obtain ⟨fd, F⟩ := c.def_ 0 (d := h7) rfl
  have bb : ∀ (s : Shared) (u : Value), BindsTo s fd ⟨[u], []⟩ [(("_law_script" : Str), u)] := fun s u => FunD.bindsA (ps := p7) F (fun _ _ _ _ _ _ us hl => match us, hl with | [_], _ => rfl) s [u] rfl
  refine ⟨fd, And.intro (mk_fn (N := n7) (st := st7) (d := D_law_v3) F c7 (FunD.bindsN F fun _ _ _ _ _ _ us hl => match us, hl with | [_], _ => rfl) (kw_all (t := tab) fun q hq e => ?_)) bb⟩
  obtain ⟨oc, od, dV, kV, doc, pm, an, cdv, ct, osl, rfl, lk, hcd, hD, hK⟩ := F.ex
  have dv : dV = .none := by
    rcases hD with ⟨_, z⟩ | ⟨z, _⟩
    · exact z
    · exact absurd rfl z
  subst dv
  simp only [tab, List.mem_cons, List.not_mem_nil, or_false] at hq
theorem f101 (c : He5.SaysA [] fnl K) : ∃ fd, FnK (tab.gn K) tab.tb pg K 101 D__law_sorts (tab.ad K 101) fd p101 := by
  obtain ⟨fd, F⟩ := c.def_ 1 (d := h101) rfl
  refine ⟨fd, mk_fn (N := n101) (st := st101) (d := D__law_sorts) F c101 (FunD.bindsN F fun _ _ _ _ _ _ us hl => match us, hl with | [_], _ => rfl) (kw_all (t := tab) fun q hq e => ?_)⟩
  obtain ⟨oc, od, dV, kV, doc, pm, an, cdv, ct, osl, rfl, lk, hcd, hD, hK⟩ := F.ex
  have dv : dV = .none := by
    rcases hD with ⟨_, z⟩ | ⟨z, _⟩
    · exact z
    · exact absurd rfl z
  subst dv
  simp only [tab, List.mem_cons, List.not_mem_nil, or_false] at hq
theorem f5 (c : He5.SaysA [] fnl K) : ∃ fd, FnK (tab.gn K) tab.tb pg K 5 D__law_same (tab.ad K 5) fd p5 := by
  obtain ⟨fd, F⟩ := c.def_ 2 (d := h5) rfl
  refine ⟨fd, mk_fn (N := n5) (st := st5) (d := D__law_same) F c5 (FunD.bindsN F fun _ _ _ _ _ _ us hl => match us, hl with | [_, _], _ => rfl) (kw_all (t := tab) fun q hq e => ?_)⟩
  obtain ⟨oc, od, dV, kV, doc, pm, an, cdv, ct, osl, rfl, lk, hcd, hD, hK⟩ := F.ex
  have dv : dV = .none := by
    rcases hD with ⟨_, z⟩ | ⟨z, _⟩
    · exact z
    · exact absurd rfl z
  subst dv
  simp only [tab, List.mem_cons, List.not_mem_nil, or_false] at hq
theorem f102 (c : He5.SaysA [] fnl K) : ∃ fd, FnK (tab.gn K) tab.tb pg K 102 D__law_field (tab.ad K 102) fd p102 := by
  obtain ⟨fd, F⟩ := c.def_ 3 (d := h102) rfl
  refine ⟨fd, mk_fn (N := n102) (st := st102) (d := D__law_field) F c102 (FunD.bindsN F fun _ _ _ _ _ _ us hl => match us, hl with | [_], _ => rfl) (kw_all (t := tab) fun q hq e => ?_)⟩
  obtain ⟨oc, od, dV, kV, doc, pm, an, cdv, ct, osl, rfl, lk, hcd, hD, hK⟩ := F.ex
  have dv : dV = .none := by
    rcases hD with ⟨_, z⟩ | ⟨z, _⟩
    · exact z
    · exact absurd rfl z
  subst dv
  simp only [tab, List.mem_cons, List.not_mem_nil, or_false] at hq
theorem f103 (c : He5.SaysA [] fnl K) : ∃ fd, FnK (tab.gn K) tab.tb pg K 103 D__law_errors (tab.ad K 103) fd p103 := by
  obtain ⟨fd, F⟩ := c.def_ 4 (d := h103) rfl
  refine ⟨fd, mk_fn (N := n103) (st := st103) (d := D__law_errors) F c103 (FunD.bindsN F fun _ _ _ _ _ _ us hl => match us, hl with | [_], _ => rfl) (kw_all (t := tab) fun q hq e => ?_)⟩
  obtain ⟨oc, od, dV, kV, doc, pm, an, cdv, ct, osl, rfl, lk, hcd, hD, hK⟩ := F.ex
  have dv : dV = .none := by
    rcases hD with ⟨_, z⟩ | ⟨z, _⟩
    · exact z
    · exact absurd rfl z
  subst dv
  simp only [tab, List.mem_cons, List.not_mem_nil, or_false] at hq
theorem f104 (c : He5.SaysA [] fnl K) : ∃ fd, FnK (tab.gn K) tab.tb pg K 104 D__law_codes (tab.ad K 104) fd p104 := by
  obtain ⟨fd, F⟩ := c.def_ 5 (d := h104) rfl
  refine ⟨fd, mk_fn (N := n104) (st := st104) (d := D__law_codes) F c104 (FunD.bindsN F fun _ _ _ _ _ _ us hl => match us, hl with | [], _ => rfl) (kw_all (t := tab) fun q hq e => ?_)⟩
  obtain ⟨oc, od, dV, kV, doc, pm, an, cdv, ct, osl, rfl, lk, hcd, hD, hK⟩ := F.ex
  have dv : dV = .none := by
    rcases hD with ⟨_, z⟩ | ⟨z, _⟩
    · exact z
    · exact absurd rfl z
  subst dv
  simp only [tab, List.mem_cons, List.not_mem_nil, or_false] at hq
theorem f4 (c : He5.SaysA [] fnl K) : ∃ fd, FnK (tab.gn K) tab.tb pg K 4 D__law_of (tab.ad K 4) fd p4 := by
  obtain ⟨fd, F⟩ := c.def_ 6 (d := h4) rfl
  refine ⟨fd, mk_fn (N := n4) (st := st4) (d := D__law_of) F c4 (FunD.bindsN F fun _ _ _ _ _ _ us hl => match us, hl with | [_, _], _ => rfl) (kw_all (t := tab) fun q hq e => ?_)⟩
  obtain ⟨oc, od, dV, kV, doc, pm, an, cdv, ct, osl, rfl, lk, hcd, hD, hK⟩ := F.ex
  have dv : dV = .none := by
    rcases hD with ⟨_, z⟩ | ⟨z, _⟩
    · exact z
    · exact absurd rfl z
  subst dv
  simp only [tab, List.mem_cons, List.not_mem_nil, or_false] at hq
theorem f3 (c : He5.SaysA [] fnl K) : ∃ fd, FnK (tab.gn K) tab.tb pg K 3 D__law_pull (tab.ad K 3) fd p3 := by
  obtain ⟨fd, F⟩ := c.def_ 7 (d := h3) rfl
  refine ⟨fd, mk_fn (N := n3) (st := st3) (d := D__law_pull) F c3 (FunD.bindsN F fun _ _ _ _ _ _ us hl => match us, hl with | [_, _], _ => rfl) (kw_all (t := tab) fun q hq e => ?_)⟩
  obtain ⟨oc, od, dV, kV, doc, pm, an, cdv, ct, osl, rfl, lk, hcd, hD, hK⟩ := F.ex
  have dv : dV = .none := by
    rcases hD with ⟨_, z⟩ | ⟨z, _⟩
    · exact z
    · exact absurd rfl z
  subst dv
  simp only [tab, List.mem_cons, List.not_mem_nil, or_false] at hq
theorem f2 (c : He5.SaysA [] fnl K) : ∃ fd, FnK (tab.gn K) tab.tb pg K 2 D__law_bag (tab.ad K 2) fd p2 := by
  obtain ⟨fd, F⟩ := c.def_ 8 (d := h2) rfl
  refine ⟨fd, mk_fn (N := n2) (st := st2) (d := D__law_bag) F c2 (FunD.bindsN F fun _ _ _ _ _ _ us hl => match us, hl with | [_], _ => rfl) (kw_all (t := tab) fun q hq e => ?_)⟩
  obtain ⟨oc, od, dV, kV, doc, pm, an, cdv, ct, osl, rfl, lk, hcd, hD, hK⟩ := F.ex
  have dv : dV = .none := by
    rcases hD with ⟨_, z⟩ | ⟨z, _⟩
    · exact z
    · exact absurd rfl z
  subst dv
  simp only [tab, List.mem_cons, List.not_mem_nil, or_false] at hq
theorem fds (c : He5.SaysA [] fnl K) : ∀ f d, tab.fd.lookup f = some d → (∃ fd ps, FnK (tab.gn K) tab.tb pg K f d (tab.ad K f) fd ps) ∨ FnS (tab.gn K) tab.tb pg K f d (tab.ad K f) := by
  intro f d hx
  have hx := mem_lk hx
  simp only [tab, List.mem_cons, List.not_mem_nil, or_false, Prod.mk.injEq] at hx
  rcases hx with ⟨rfl, rfl⟩ | ⟨rfl, rfl⟩ | ⟨rfl, rfl⟩ | ⟨rfl, rfl⟩ | ⟨rfl, rfl⟩ | ⟨rfl, rfl⟩ | ⟨rfl, rfl⟩ | ⟨rfl, rfl⟩ | ⟨rfl, rfl⟩
  · obtain ⟨fd, k, _⟩ := f7 c
    exact .inl ⟨fd, _, k⟩
  · obtain ⟨fd, k⟩ := f101 c
    exact .inl ⟨fd, _, k⟩
  · obtain ⟨fd, k⟩ := f5 c
    exact .inl ⟨fd, _, k⟩
  · obtain ⟨fd, k⟩ := f102 c
    exact .inl ⟨fd, _, k⟩
  · obtain ⟨fd, k⟩ := f103 c
    exact .inl ⟨fd, _, k⟩
  · obtain ⟨fd, k⟩ := f104 c
    exact .inl ⟨fd, _, k⟩
  · obtain ⟨fd, k⟩ := f4 c
    exact .inl ⟨fd, _, k⟩
  · obtain ⟨fd, k⟩ := f3 c
    exact .inl ⟨fd, _, k⟩
  · obtain ⟨fd, k⟩ := f2 c
    exact .inl ⟨fd, _, k⟩
theorem xcs (X : K.In h) (G : h.Ns mainGlobals mg) (fa : tab.facts K = true) (cx : SaysX xil K) : ∀ c d lit fo, tab.ex.lookup c = some d → d.own = some (lit, fo) → XcOk (tab.gn K) tab.tb prog K mg c tab.kc lit (fo.map (·.1)) := by
  intro c d lit fo hx ho
  have hx := mem_lk hx
  simp only [tab, List.mem_cons, List.not_mem_nil, or_false, Prod.mk.injEq] at hx
  rcases hx with ⟨rfl, rfl⟩ | ⟨rfl, rfl⟩ | ⟨rfl, rfl⟩ | ⟨rfl, rfl⟩ | ⟨rfl, rfl⟩ | ⟨rfl, rfl⟩ | ⟨rfl, rfl⟩ | ⟨rfl, rfl⟩ | ⟨rfl, rfl⟩ | ⟨rfl, rfl⟩ | ⟨rfl, rfl⟩ | ⟨rfl, rfl⟩ | ⟨rfl, rfl⟩ | ⟨rfl, rfl⟩ | ⟨rfl, rfl⟩ | ⟨rfl, rfl⟩ | ⟨rfl, rfl⟩ | ⟨rfl, rfl⟩ | ⟨rfl, rfl⟩
  · cases ho
  · cases ho
  · cases ho
    exact xcok_of X G rfl rfl ex_ok fa (saysX_at cx 0 (d := xi2) rfl) xs2
  · cases ho
    exact xcok_of X G rfl rfl ex_ok fa (saysX_at cx 1 (d := xi3) rfl) xs3
  · cases ho
    exact xcok_of X G rfl rfl ex_ok fa (saysX_at cx 2 (d := xi4) rfl) xs4
  · cases ho
    exact xcok_of X G rfl rfl ex_ok fa (saysX_at cx 3 (d := xi5) rfl) xs5
  · cases ho
    exact xcok_of X G rfl rfl ex_ok fa (saysX_at cx 4 (d := xi6) rfl) xs6
  · cases ho
    exact xcok_of X G rfl rfl ex_ok fa (saysX_at cx 5 (d := xi7) rfl) xs7
  · cases ho
    exact xcok_of X G rfl rfl ex_ok fa (saysX_at cx 6 (d := xi8) rfl) xs8
  · cases ho
    exact xcok_of X G rfl rfl ex_ok fa (saysX_at cx 7 (d := xi9) rfl) xs9
  · cases ho
    exact xcok_of X G rfl rfl ex_ok fa (saysX_at cx 8 (d := xi10) rfl) xs10
  · cases ho
    exact xcok_of X G rfl rfl ex_ok fa (saysX_at cx 9 (d := xi11) rfl) xs11
  · cases ho
    exact xcok_of X G rfl rfl ex_ok fa (saysX_at cx 10 (d := xi12) rfl) xs12
  · cases ho
    exact xcok_of X G rfl rfl ex_ok fa (saysX_at cx 11 (d := xi13) rfl) xs13
  · cases ho
    exact xcok_of X G rfl rfl ex_ok fa (saysX_at cx 12 (d := xi14) rfl) xs14
  · cases ho
    exact xcok_of X G rfl rfl ex_ok fa (saysX_at cx 13 (d := xi15) rfl) xs15
  · cases ho
    exact xcok_of X G rfl rfl ex_ok fa (saysX_at cx 14 (d := xi16) rfl) xs16
  · cases ho
    exact xcok_of X G rfl rfl ex_ok fa (saysX_at cx 15 (d := xi17) rfl) xs17
  · cases ho
    exact xcok_of X G rfl rfl ex_ok fa (saysX_at cx 16 (d := xi18) rfl) xs18
end
theorem law_ok (lv : Nat) (hr : Room (3 * lv + 2) callerA) (pure_ : ∀ ns : List Int, ns.length ≤ 63 → (∀ k ∈ ns, Builtin.Int.intBits k ≤ 1048576) → ∃ m, callAt pg lv 7 [.p (.scr ns)] [] = .ok (.p (.bl true)) m) : PySem.Challenge.rw_keptlaws_k01_errors_by_themselves.Holds := by
  open PySem.W PySem.Calls in
  w_on; o_law
  refine HandSHeadRun.head_any (r := PySem.W.OpenLaw.row PySem.Challenge.rw_keptlaws_k01_errors_by_themselves) (q := PySem.W.view (PySem.W.OpenLaw.row PySem.Challenge.rw_keptlaws_k01_errors_by_themselves).prog [29]) (H := hk) (ob := ob) (M := 9660) (loose := loose) (d := HandSHeadRun.topDef (PySem.W.OpenLaw.row PySem.Challenge.rw_keptlaws_k01_errors_by_themselves).prog 29) (kwd := []) ob_eq
    (by kernel_rfl) (fun s => by kernel_rfl) run (by kernel_rfl) (by kernel_rfl) (by kernel_rfl) (by rfl) (by first | assumption | decide +kernel) (by decide +kernel) ⟨rfl, rfl, rfl, rfl, rfl, by decide +kernel⟩ ?hw ?hc
  case hw => w_witness2
  case hc =>
    refine dn_walk (l := PySem.Challenge.rw_keptlaws_k01_errors_by_themselves) (n := 63) (k := 3 * lv + 2) (x := "_law_script") rfl (by decide) (by kernel_rfl) hr ?F
    intro w mg fa0 h Y G hmg0
    obtain ⟨K, X, c, fa, cx⟩ := Y
    have B : Base (tab.gn K) tab.tb pg mg (tab.ad K) prog := base_of X G tab_ok ex_ok fa (xcs X G fa cx) (fds c)
    have hmg : mg ("law" : Str) = some (.ref fa0) := by
      have e : (HandSHeadRun.topDef (PySem.W.OpenLaw.row PySem.Challenge.rw_keptlaws_k01_errors_by_themselves).prog 29).name = ("law" : Str) := by kernel_rfl
      rw [← e]
      exact hmg0
    obtain ⟨fd, k, bb⟩ := f7 c
    have e := hmg.symm.trans (B.fn 7 "law" rfl).1
    cases e
    refine ⟨K, fd, spL (tab.gn K) pg lv 7 1, X, bb, fun H a ns hl hb hS => sp_law (Nat.le_trans hl (by decide)) (pure_ ns hl hb) hS, fun base KX GX => ?_⟩
    exact all_fn B lv 7 _ rfl _ _ k
end
end Law

/-! Dn, part S: plain evaluation. -/
noncomputable section
namespace Dn
open PySem PySem.Spec PyProof.Rows L2
theorem Mem.get_put {m : Mem} {r : Nat} {o u : MO} (h : m.get r = some u) : (m.put r o).get r = some o := by
  have := (List.getElem?_eq_some_iff.mp (get_some h)).1
  unfold Mem.get
  rw [Dn.get_put this, if_pos rfl]
  rfl
theorem Mem.put_put {m : Mem} {r : Nat} {o u : MO} : (m.put r o).put r u = m.put r u := by
  unfold Mem.put
  rw [List.set_set]
theorem Mem.get_put_ne {m : Mem} {r n : Nat} {o : MO} (h : n ≠ r) : (m.put r o).get n = m.get n := by
  unfold Mem.get Mem.put
  rw [List.getElem?_set_ne (Ne.symm h)]
theorem Mem.len_put {m : Mem} {r : Nat} {o : MO} : (m.put r o).length = m.length := by simp [Mem.put]
theorem callAt_ok {p : Pg} {k f : Nat} {d : FD} (h : p.fd f = some d) {l : List D} {m : Mem} : callAt p (k + 1) f l m = runD (callAt p k) p.gv d l m := by
  show (match p.fd f with | some d => runD (callAt p k) p.gv d l m | none => .no) = _
  rw [h]
@[simp] theorem trim_no {m : Mem} : trimR m .no = .no := Eq.trans rfl rfl
@[simp] theorem trim_ref {m m' : Mem} {n : Nat} : trimR m (.ok (.ref n) m') = .ok (.ref n) m' := Eq.trans rfl rfl
theorem Tame.rfl_ (m : Mem) : Tame m m := ⟨Nat.le_refl _, fun _ _ => .inl rfl⟩
theorem trim_tame {m m' : Mem} {x : P} (h : Tame m m') : trimR m (.ok (.p x) m') = .ok (.p x) (m'.take m.length) := by
  exact if_pos h
@[simp] theorem trim_self {m : Mem} {x : P} : trimR m (.ok (.p x) m) = .ok (.p x) m := by
  rw [trim_tame (Tame.rfl_ m), List.take_length]
theorem tame_app {m l : Mem} : Tame m (m ++ l) := ⟨by simp, fun n h => .inl (List.getElem?_append_left h)⟩
theorem tame_put {m l : Mem} {r : Nat} {o : MO} (h : o.flat = true) : Tame m (m.put r o ++ l) := by
  refine ⟨by simp [Mem.put], fun n hn => ?_⟩
  have hn' : n < (m.put r o).length := by rw [Mem.len_put]; exact hn
  rw [List.getElem?_append_left hn']
  by_cases c : n = r
  · subst c
    right
    refine ⟨some o, ?_, fun q e => by cases e; exact h⟩
    unfold Mem.put
    rw [List.getElem?_set_self hn]
  · left
    unfold Mem.put
    rw [List.getElem?_set_ne (Ne.symm c)]
theorem trim_app {m l : Mem} {x : P} : trimR m (.ok (.p x) (m ++ l)) = .ok (.p x) m := by
  rw [trim_tame tame_app, List.take_left]
theorem trim_put {m : Mem} {r : Nat} {o : MO} {x : P} (h : o.flat = true) : trimR m (.ok (.p x) (m.put r o)) = .ok (.p x) (m.put r o) := by
  have t := tame_put (m := m) (l := []) (r := r) h
  rw [List.append_nil] at t
  rw [trim_tame t]
  have e : m.length = (m.put r o).length := Mem.len_put.symm
  rw [e, List.take_length]
theorem trim_put_app {m l : Mem} {r : Nat} {o : MO} {x : P} (h : o.flat = true) : trimR m (.ok (.p x) (m.put r o ++ l)) = .ok (.p x) (m.put r o) := by
  rw [trim_tame (tame_put h)]
  have e : m.length = (m.put r o).length := Mem.len_put.symm
  rw [e, List.take_left]
theorem trimU_tame {m m' : Mem} {d : D} (h : Tame m m') : trimU m (.ok d m') = .ok (.p .non) (m'.take m.length) := by
  exact if_pos h
theorem trimU_self {m : Mem} {d : D} : trimU m (.ok d m) = .ok (.p .non) m := by
  rw [trimU_tame (Tame.rfl_ m), List.take_length]
theorem trimU_app {m l : Mem} {d : D} : trimU m (.ok d (m ++ l)) = .ok (.p .non) m := by
  rw [trimU_tame tame_app, List.take_left]
theorem trimU_put {m : Mem} {r : Nat} {o : MO} {d : D} (h : o.flat = true) : trimU m (.ok d (m.put r o)) = .ok (.p .non) (m.put r o) := by
  have t := tame_put (m := m) (l := []) (r := r) h
  rw [List.append_nil] at t
  rw [trimU_tame t]
  have e : m.length = (m.put r o).length := Mem.len_put.symm
  rw [e, List.take_length]
/-- a def's run, every argument given -/
theorem runD_ok {cl : Nat → List D → Mem → R D} {gv : Gv} {np ns : Nat} {b : RB} {l : List D} {m : Mem} (h : l.length = np) : runD cl gv ⟨np, ns, [], false, b⟩ l m = trimR m (endS (denB cl gv b (startD ns l) m)) := by
  have e : argsD ⟨np, ns, [], false, b⟩ l = some l := by
    unfold argsD
    simp [h]
  unfold runD
  rw [e]
def slot (o : Option (Option D)) (m : Mem) : R D := match o with
  | some (some d) => .ok d m
  | _ => .no
def asI (x : D) (m : Mem) : R (Option Int) := match x with
  | .p (.int i) => .ok (some i) m
  | _ => .no
/-! ### the copied syntax, step by step (a comprehension stays as it is) -/
section
variable {cl : Nat → List D → Mem → R D} {gv : Gv} {δ : Sl} {m : Mem} {a b c e : RE} {l : RL} {i n : Nat}
@[simp] theorem v_var : den cl gv (.var i) δ m = slot δ[i]? m := Eq.trans rfl rfl
@[simp] theorem slot_ {d : D} : slot (some (some d)) m = .ok d m := Eq.trans rfl rfl
@[simp] theorem v_cst {x : P} : den cl gv (.cst x) δ m = .ok (.p x) m := Eq.trans rfl rfl
@[simp] theorem v_glo : den cl gv (.glo n) δ m = .ok (.p (gv.c n)) m := Eq.trans rfl rfl
@[simp] theorem v_tup : den cl gv (.tup l) δ m = (denL cl gv l δ m).bind (lnS l.plain mkT) := Eq.trans rfl rfl
@[simp] theorem pl_nil : RL.plain .nil = true := Eq.trans rfl rfl
@[simp] theorem pl_cons : RL.plain (.cons e l) = l.plain := Eq.trans rfl rfl
@[simp] theorem pl_star : RL.plain (.star e l) = false := Eq.trans rfl rfl
@[simp] theorem lnS_t {α : Type} {f : List D → Mem → R α} : lnS true f = f := Eq.trans rfl rfl
theorem lnS_f {α : Type} {f : List D → Mem → R α} {ds : List D} (h : ds.length ≤ sizeLine) : lnS false f ds m = f ds m := if_pos h
@[simp] theorem v_lst {mu : Bool} : den cl gv (.lst mu l) δ m = (denL cl gv l δ m).bind (lnS l.plain (mkL mu)) := Eq.trans rfl rfl
@[simp] theorem v_bin {o : BOp} : den cl gv (.bin o a b) δ m = (den cl gv a δ m).bind fun x m => (den cl gv b δ m).bind fun y m => binS o x y m := Eq.trans rfl rfl
@[simp] theorem v_cmp {o : COp} : den cl gv (.cmp o a b) δ m = (den cl gv a δ m).bind fun x m => (den cl gv b δ m).bind fun y m => cmpO cl gv o x y m := Eq.trans rfl rfl
@[simp] theorem v_cmp2 {o o' : COp} : den cl gv (.cmp2 o o' a b c) δ m = (den cl gv a δ m).bind fun x m => (den cl gv b δ m).bind fun y m => (cmpS o x y m).bind fun k m => (asB k m).bind fun k m => if k then (den cl gv c δ m).bind fun z m => cmpS o' y z m else .ok (.p (.bl false)) m := Eq.trans rfl rfl
@[simp] theorem v_and : den cl gv (.and a b) δ m = (den cl gv a δ m).bind fun x m => (asB x m).bind fun x m => if x then den cl gv b δ m else .ok (.p (.bl false)) m := Eq.trans rfl rfl
@[simp] theorem v_or : den cl gv (.or a b) δ m = (den cl gv a δ m).bind fun x m => (asB x m).bind fun x m => if x then .ok (.p (.bl true)) m else den cl gv b δ m := Eq.trans rfl rfl
@[simp] theorem v_not : den cl gv (.not a) δ m = (den cl gv a δ m).bind fun x m => (asB x m).bind fun x m => .ok (.p (.bl (!x))) m := Eq.trans rfl rfl
@[simp] theorem v_ite : den cl gv (.ite c a b) δ m = (den cl gv c δ m).bind fun x m => (asB x m).bind fun x m => if x then den cl gv a δ m else den cl gv b δ m := Eq.trans rfl rfl
@[simp] theorem v_isi {o : Bool} {l : List Ty} : den cl gv (.isi a o l) δ m = (den cl gv a δ m).bind fun x m => oB (isTys l x m) m := Eq.trans rfl rfl
@[simp] theorem v_ix : den cl gv (.ix a b) δ m = (den cl gv a δ m).bind fun x m => (den cl gv b δ m).bind fun y m => ixS x y m := Eq.trans rfl rfl
@[simp] theorem v_sl {lo hi : RO} : den cl gv (.sl a lo hi) δ m = (den cl gv a δ m).bind fun x m => (denO cl gv lo δ m).bind fun i m => (denO cl gv hi δ m).bind fun j m => slS x i j m := Eq.trans rfl rfl
@[simp] theorem v_call {f : Nat} : den cl gv (.call f l) δ m = (denL cl gv l δ m).bind (cl f) := Eq.trans rfl rfl
@[simp] theorem v_callK {f : Nat} {k : RL} {pm : List Nat} : den cl gv (.callK f l k pm) δ m = (denL cl gv l δ m).bind fun xs m => (denL cl gv k δ m).bind fun zs m => cl f (permL pm xs zs) m := Eq.trans rfl rfl
@[simp] theorem v_bcl {f : BF} : den cl gv (.bcl f l) δ m = (denL cl gv l δ m).bind (bclO cl gv f) := Eq.trans rfl rfl
@[simp] theorem v_bmt {f : BM} : den cl gv (.bmt f a l) δ m = (den cl gv a δ m).bind fun x m => if bmPre f x m = true then (denL cl gv l δ m).bind (bmtS f x) else .no := Eq.trans rfl rfl
theorem v_lc {mu : Bool} {t : T} {it : RI} {c : RO} {own : List Nat} : den cl gv (.lc mu e t it c own) δ m = (denI cl gv it δ m).bind fun its m => (lcRun (turn (denC cl gv c) (den cl gv e) t (wipeD δ own)) its its.l m).bind (mkL mu) := Eq.trans rfl rfl
@[simp] theorem v_frz : den cl gv (.frz a) δ m = trimR m ((den cl gv a δ m).bind frzS) := Eq.trans rfl rfl
@[simp] theorem v_fld {f : Nat} : den cl gv (.fld a f) δ m = (den cl gv a δ m).bind fun x m => fldS gv f x m := Eq.trans rfl rfl
theorem v_meth : den cl gv (.meth a n l) δ m = (den cl gv a δ m).bind fun x m => match (clsS x m).bind fun c => gv.mt c n with | some f => (denL cl gv l δ m).bind fun xs m => cl f (x :: xs) m | none => .no := Eq.trans rfl rfl
theorem v_methP {f c : Nat} {x : D} {m' : Mem} (e1 : den cl gv a δ m = .ok x m') (e2 : clsS x m' = some c) (e3 : gv.mt c n = some f) : den cl gv (.meth a n l) δ m = (denL cl gv l δ m').bind fun xs m => cl f (x :: xs) m := by
  rw [v_meth, e1]
  simp only [R.bind_ok, e2, Option.bind_some, e3]
theorem v_make {f c : Nat} (h : gv.ini c = some f) : den cl gv (.make c l) δ m = (denL cl gv l δ m).bind fun xs m => makeS cl c f xs m := by
  show (match gv.ini c with | some f => (denL cl gv l δ m).bind fun xs m => makeS cl c f xs m | none => .no) = _
  rw [h]
theorem v_ccon {c : Nat} {x : P} (h : gv.cc c n = some x) : den cl gv (.ccon c n) δ m = .ok (.p x) m := by
  show (match gv.cc c n with | some x => R.ok (D.p x) m | none => .no) = _
  rw [h]
@[simp] theorem v_fmt : den cl gv (.fmt a) δ m = (den cl gv a δ m).bind fmtS := Eq.trans rfl rfl
@[simp] theorem v_fstr : den cl gv (.fstr l) δ m = denJ cl gv l Str.empty δ m := Eq.trans rfl rfl
@[simp] theorem v_disp : den cl gv (.disp l) δ m = (denL cl gv l δ m).bind dispS := Eq.trans rfl rfl
@[simp] theorem v_dzip : den cl gv (.dzip a b) δ m = (den cl gv a δ m).bind fun x m => (den cl gv b δ m).bind fun y m => dzipS x y m := Eq.trans rfl rfl
@[simp] theorem v_dnew {t : Bool} : den cl gv (.dnew t) δ m = .ok (.ref m.length) (m.new (if t then .dcT [] else .dct [])) := Eq.trans rfl rfl
@[simp] theorem v_rev : den cl gv (.rev a) δ m = (den cl gv a δ m).bind revS := Eq.trans rfl rfl
theorem v_dcm {t : Bool} {kx vx : RE} {tg : T} {it : RI} {co : RO} {own : List Nat} : den cl gv (.dcm t kx vx tg it co own) δ m = (denI cl gv it δ m).bind fun its m => dcRun t (fun x m => (oR (asgT tg x m (wipeD δ own)) m).bind fun δ' m => (denC cl gv co δ' m).bind fun k m => if k then (den cl gv kx δ' m).bind fun y m => (den cl gv vx δ' m).bind fun z m => pairS y z m else .ok none m) its its.l [] m := Eq.trans rfl rfl
@[simp] theorem j_nil {acc : Str} : denJ cl gv .nil acc δ m = .ok (.p (.str acc)) m := Eq.trans rfl rfl
theorem j_cons {acc : Str} : denJ cl gv (.cons e l) acc δ m = (den cl gv e δ m).bind fun x m => match addS acc x with | some acc => denJ cl gv l acc δ m | none => .no := Eq.trans rfl rfl
@[simp] theorem l_nil : denL cl gv .nil δ m = .ok [] m := Eq.trans rfl rfl
@[simp] theorem l_cons : denL cl gv (.cons e l) δ m = (den cl gv e δ m).bind fun x m => (denL cl gv l δ m).bind fun xs m => .ok (x :: xs) m := Eq.trans rfl rfl
@[simp] theorem l_star : denL cl gv (.star e l) δ m = (den cl gv e δ m).bind fun x m => (oR (seqD m x) m).bind fun ys m => (denL cl gv l δ m).bind fun xs m => .ok (ys ++ xs) m := Eq.trans rfl rfl
@[simp] theorem o_none' : denO cl gv .none δ m = .ok none m := Eq.trans rfl rfl
@[simp] theorem o_some' : denO cl gv (.some e) δ m = (den cl gv e δ m).bind asI := Eq.trans rfl rfl
@[simp] theorem asI_ {i : Int} : asI (.p (.int i)) m = .ok (some i) m := Eq.trans rfl rfl
@[simp] theorem c_none' : denC cl gv .none δ m = .ok true m := Eq.trans rfl rfl
@[simp] theorem c_some' : denC cl gv (.some e) δ m = (den cl gv e δ m).bind asB := Eq.trans rfl rfl
@[simp] theorem i_seq' : denI cl gv (.seq e) δ m = (den cl gv e δ m).bind fun x m => oR (itSeq x m) m := Eq.trans rfl rfl
@[simp] theorem i_rng' : denI cl gv (.rng e) δ m = (den cl gv e δ m).bind fun x m => oR (itRng x) m := Eq.trans rfl rfl
@[simp] theorem i_zip' : denI cl gv (.zip l) δ m = (denL cl gv l δ m).bind fun xs m => oR (itZip xs m) m := Eq.trans rfl rfl
@[simp] theorem i_keys' : denI cl gv (.keys a) δ m = (den cl gv a δ m).bind fun x m => oR (itKeys x) m := Eq.trans rfl rfl
@[simp] theorem i_rng2' : denI cl gv (.rng2 a b) δ m = (den cl gv a δ m).bind fun x m => (den cl gv b δ m).bind fun y m => oR (itRng2 x y) m := Eq.trans rfl rfl
@[simp] theorem i_enum' : denI cl gv (.enum a) δ m = (den cl gv a δ m).bind fun x m => oR (itEnum x m) m := Eq.trans rfl rfl
@[simp] theorem toS_ok {α : Type} {x : α} {f : α → Mem → S} : (R.ok x m).toS δ f = f x m := Eq.trans rfl rfl
@[simp] theorem b_nil' : denB cl gv .nil δ m = .ok .nx δ m := Eq.trans rfl rfl
@[simp] theorem b_lock' {i : Nat} {b : RB} : denB cl gv (.lock i b) δ m = (match δ[i]? with | some (some d) => (match frzS d m with | .ok x m => denB cl gv b (δ.set i (some x)) m | _ => .no) | _ => .no) := Eq.trans rfl rfl
@[simp] theorem b_cons' {s : RS} {b : RB} : denB cl gv (.cons s b) δ m = (match denS cl gv s δ m with | .ok .nx δ m => denB cl gv b δ m | r => r) := Eq.trans rfl rfl
@[simp] theorem s_asg' {t : T} : denS cl gv (.asg t e) δ m = (den cl gv e δ m).toS δ fun d m => match asgT t d m δ with | some δ' => .ok .nx δ' m | none => .no := Eq.trans rfl rfl
@[simp] theorem s_fset' {f : Nat} : denS cl gv (.fset a f e) δ m = (den cl gv e δ m).toS δ fun v m => (den cl gv a δ m).toS δ fun x m => (fsetS gv f x v m).toS δ fun _ m => .ok .nx δ m := Eq.trans rfl rfl
theorem s_for' {t : T} {it : RI} {b : RB} : denS cl gv (.forr t it b) δ m = (denI cl gv it δ m).toS δ fun its m => forRun (fun x δ m => match asgT t x m δ with | some δ' => denB cl gv b δ' m | none => .no) its its.l δ m := Eq.trans rfl rfl
@[simp] theorem s_set' : denS cl gv (.set i e) δ m = (den cl gv e δ m).toS δ fun d m => .ok .nx (δ.set i (some d)) m := Eq.trans rfl rfl
@[simp] theorem s_iset' : denS cl gv (.iset a b e) δ m = (den cl gv e δ m).toS δ fun v m => (den cl gv a δ m).toS δ fun x m => (den cl gv b δ m).toS δ fun y m => (isetS x y v m).toS δ fun _ m => .ok .nx δ m := Eq.trans rfl rfl
@[simp] theorem s_par' {is : List Nat} : denS cl gv (.par is l) δ m = (denL cl gv l δ m).toS δ fun ds m => if ds.length = is.length then .ok .nx ((is.zip ds).foldl (fun δ p => δ.set p.1 (some p.2)) δ) m else .no := Eq.trans rfl rfl
@[simp] theorem s_ex' : denS cl gv (.ex e) δ m = (trimU m (den cl gv e δ m)).toS δ fun _ m => .ok .nx δ m := Eq.trans rfl rfl
@[simp] theorem s_ret' : denS cl gv (.ret e) δ m = (den cl gv e δ m).toS δ fun d m => .ok (.rt d) δ m := Eq.trans rfl rfl
@[simp] theorem s_ite' {a b : RB} : denS cl gv (.ite c a b) δ m = ((den cl gv c δ m).bind asB).toS δ fun k m => if k then denB cl gv a δ m else denB cl gv b δ m := Eq.trans rfl rfl
@[simp] theorem endS_rt {d : D} : endS (.ok (.rt d) δ m) = .ok d m := Eq.trans rfl rfl
@[simp] theorem endS_nx : endS (.ok .nx δ m) = .ok (.p .non) m := Eq.trans rfl rfl
@[simp] theorem oR_some {α : Type} {x : α} : oR (some x) m = .ok x m := Eq.trans rfl rfl
@[simp] theorem oB_some {x : Bool} : oB (some x) m = .ok (.p (.bl x)) m := Eq.trans rfl rfl
@[simp] theorem start_ {n : Nat} {l : List D} : startD n l = l.map some ++ List.replicate (n - l.length) none := Eq.trans rfl rfl
theorem turn_ {rc : Sl → Mem → R Bool} {re : Sl → Mem → R D} {t : T} {x : D} : turn rc re t δ x m = (oR (asgT t x m δ) m).bind fun δ' m => (rc δ' m).bind fun k m => if k then (re δ' m).bind fun y m => .ok (some y) m else .ok none m := Eq.trans rfl rfl
@[simp] theorem asg_nm {x : D} : asgT (.nm i) x m δ = some (δ.set i (some x)) := Eq.trans rfl rfl
end
/-! ### operations on what is known -/
section
variable {m : Mem} {i j : Int} {b b' : Bool} {x y : Str}
theorem shp_int (i : Int) : (P.int i).shp = true := Eq.trans rfl rfl
theorem shp_bl (i : Bool) : (P.bl i).shp = true := Eq.trans rfl rfl
@[simp] theorem o_add : binS .add (.p (.int i)) (.p (.int j)) m = .ok (.p (.int (i + j))) m := Eq.trans rfl rfl
@[simp] theorem o_sub : binS .sub (.p (.int i)) (.p (.int j)) m = .ok (.p (.int (i - j))) m := Eq.trans rfl rfl
theorem o_mulL (h1 : -(2 ^ 64) < i) (h2 : i < 2 ^ 64) : binS .mul (.p (.int i)) (.p (.int j)) m = .ok (.p (.int (i * j))) m := by
  refine if_pos ?_
  unfold mulOk
  rw [Bool.or_eq_true]
  exact .inl (by rw [Bool.and_eq_true]; exact ⟨decide_eq_true h1, decide_eq_true h2⟩)
theorem o_mulR (h1 : -(2 ^ 64) < j) (h2 : j < 2 ^ 64) : binS .mul (.p (.int i)) (.p (.int j)) m = .ok (.p (.int (i * j))) m := by
  refine if_pos ?_
  unfold mulOk
  rw [Bool.or_eq_true]
  exact .inr (by rw [Bool.and_eq_true]; exact ⟨decide_eq_true h1, decide_eq_true h2⟩)
theorem o_mod (h : 0 < j) : binS .mod (.p (.int i)) (.p (.int j)) m = .ok (.p (.int (i % j))) m := if_pos h
theorem o_fdiv (h : 0 < j) (h2 : j < 1073741824) : binS .fdiv (.p (.int i)) (.p (.int j)) m = .ok (.p (.int (i / j))) m := if_pos ⟨h, h2⟩
theorem o_pow (h : 0 ≤ j) (h2 : j ≤ 1000000) (h3 : i.natAbs < 2 ^ 64) : binS .pow (.p (.int i)) (.p (.int j)) m = .ok (.p (.int (i ^ j.toNat))) m := if_pos ⟨h, h2, h3⟩
@[simp] theorem k_lt : cmpS .lt (.p (.int i)) (.p (.int j)) m = .ok (.p (.bl (decide (i < j)))) m := Eq.trans rfl rfl
@[simp] theorem k_gt : cmpS .gt (.p (.int i)) (.p (.int j)) m = .ok (.p (.bl (decide (j < i)))) m := Eq.trans rfl rfl
@[simp] theorem k_le : cmpS .le (.p (.int i)) (.p (.int j)) m = .ok (.p (.bl (decide (i ≤ j)))) m := Eq.trans rfl rfl
@[simp] theorem k_ge : cmpS .ge (.p (.int i)) (.p (.int j)) m = .ok (.p (.bl (decide (j ≤ i)))) m := Eq.trans rfl rfl
@[simp] theorem k_eqI : cmpS .eq (.p (.int i)) (.p (.int j)) m = .ok (.p (.bl (decide (i = j)))) m := by
  show oB (eqP (.int i) (.int j)) m = _
  have : eqP (.int i) (.int j) = some (i == j) := rfl
  rw [this]
  show R.ok (D.p (.bl (i == j))) m = _
  congr 3
@[simp] theorem k_neI : cmpS .ne (.p (.int i)) (.p (.int j)) m = .ok (.p (.bl (!decide (i = j)))) m := by
  show oB ((eqP (.int i) (.int j)).map (!·)) m = _
  have : eqP (.int i) (.int j) = some (i == j) := rfl
  rw [this]
  show R.ok (D.p (.bl (!(i == j)))) m = _
  congr 4
@[simp] theorem k_eqS : cmpS .eq (.p (.str x)) (.p (.str y)) m = .ok (.p (.bl (decide (x = y)))) m := Eq.trans rfl rfl
@[simp] theorem k_eqB : cmpS .eq (.p (.bl b)) (.p (.bl b')) m = .ok (.p (.bl (b == b'))) m := by cases b <;> cases b' <;> rfl
@[simp] theorem k_neB : cmpS .ne (.p (.bl b)) (.p (.bl b')) m = .ok (.p (.bl (!(b == b')))) m := by cases b <;> cases b' <;> rfl
@[simp] theorem k_isN {d : D} : cmpS .isn d (.p .non) m = .ok (.p (.bl (isN d))) m := Eq.trans rfl rfl
@[simp] theorem k_notN {d : D} : cmpS .notn d (.p .non) m = .ok (.p (.bl (!isN d))) m := Eq.trans rfl rfl
@[simp] theorem asB_bl : asB (.p (.bl b)) m = .ok b m := Eq.trans rfl rfl
@[simp] theorem ints_ : bclS .int [.p (.int i)] m = .ok (.p (.int i)) m := Eq.trans rfl rfl
@[simp] theorem abs_ : bclS .abs [.p (.int i)] m = .ok (.p (.int (if i < 0 then -i else i))) m := Eq.trans rfl rfl
@[simp] theorem len_l {l : List P} : bclS .len [.p (.lst l)] m = .ok (.p (.int (l.length : Int))) m := by
  show R.ok (D.p (.int ((l.map D.p).length : Int))) m = _
  rw [List.length_map]
@[simp] theorem len_t {l : List P} : bclS .len [.p (.tup l)] m = .ok (.p (.int (l.length : Int))) m := by
  show R.ok (D.p (.int ((l.map D.p).length : Int))) m = _
  rw [List.length_map]
@[simp] theorem len_s : bclS .len [.p (.str x)] m = .ok (.p (.int (x.length : Int))) m := Eq.trans rfl rfl
@[simp] theorem list_l {l : List P} : bclS .list [.p (.lst l)] m = .ok (.p (.lst l)) m := by
  show mkL false (l.map D.p) m = _
  unfold mkL
  rw [allP_map]
@[simp] theorem list_t {l : List P} : bclS .list [.p (.tup l)] m = .ok (.p (.lst l)) m := by
  show mkL false (l.map D.p) m = _
  unfold mkL
  rw [allP_map]
@[simp] theorem tuple_t {l : List P} : bclS .tuple [.p (.tup l)] m = .ok (.p (.tup l)) m := Eq.trans rfl rfl
@[simp] theorem tuple_l {l : List P} : bclS .tuple [.p (.lst l)] m = .ok (.p (.tup l)) m := by
  show mkT (l.map D.p) m = _
  unfold mkT
  rw [allP_map]
@[simp] theorem listM_l {l : List P} : bclS .listM [.p (.lst l)] m = .ok (.ref m.length) (m.new (.lst (l.map D.p))) := Eq.trans rfl rfl
@[simp] theorem listM_t {l : List P} : bclS .listM [.p (.tup l)] m = .ok (.ref m.length) (m.new (.lst (l.map D.p))) := Eq.trans rfl rfl
@[simp] theorem listM_d {l : List (P × P)} : bclS .listM [.p (.dct false l)] m = .ok (.ref m.length) (m.new (.lst (l.map fun kv => .p kv.1))) := Eq.trans rfl rfl
end
/-! ### of what class -/
section
variable {cl : Nat → List D → Mem → R D} {gv : Gv} {m : Mem} {a b : D}
@[simp] theorem cls_non : clsS (.p .non) m = none := Eq.trans rfl rfl
@[simp] theorem cls_bl {x : Bool} : clsS (.p (.bl x)) m = none := Eq.trans rfl rfl
@[simp] theorem cls_int {x : Int} : clsS (.p (.int x)) m = none := Eq.trans rfl rfl
@[simp] theorem cls_str {x : Str} : clsS (.p (.str x)) m = none := Eq.trans rfl rfl
@[simp] theorem cls_tup {x : List P} : clsS (.p (.tup x)) m = none := Eq.trans rfl rfl
@[simp] theorem cls_lst {x : List P} : clsS (.p (.lst x)) m = none := Eq.trans rfl rfl
@[simp] theorem cls_dct {t : Bool} {x : List (P × P)} : clsS (.p (.dct t x)) m = none := Eq.trans rfl rfl
@[simp] theorem cls_ins {c : Nat} {x : List (Nat × P)} : clsS (.p (.ins c x)) m = some c := Eq.trans rfl rfl
@[simp] theorem co_lt : cmpO cl gv .lt a b m = cmpS .lt a b m := Eq.trans rfl rfl
@[simp] theorem co_gt : cmpO cl gv .gt a b m = cmpS .gt a b m := Eq.trans rfl rfl
@[simp] theorem co_le : cmpO cl gv .le a b m = cmpS .le a b m := Eq.trans rfl rfl
@[simp] theorem co_ge : cmpO cl gv .ge a b m = cmpS .ge a b m := Eq.trans rfl rfl
@[simp] theorem co_isn : cmpO cl gv .isn a b m = cmpS .isn a b m := Eq.trans rfl rfl
@[simp] theorem co_notn : cmpO cl gv .notn a b m = cmpS .notn a b m := Eq.trans rfl rfl
@[simp] theorem co_eq (h : clsS a m = none) : cmpO cl gv .eq a b m = cmpS .eq a b m := by unfold cmpO; simp only [h]
@[simp] theorem co_ne (h : clsS a m = none) : cmpO cl gv .ne a b m = cmpS .ne a b m := by unfold cmpO; simp only [h]
@[simp] theorem co_in (h : clsS b m = none) : cmpO cl gv .inn a b m = cmpS .inn a b m := by unfold cmpO; simp only [h]
@[simp] theorem co_nin (h : clsS b m = none) : cmpO cl gv .nin a b m = cmpS .nin a b m := by unfold cmpO; simp only [h]
@[simp] theorem bo_len (h : clsS a m = none) : bclO cl gv .len [a] m = bclS .len [a] m := by unfold bclO; simp only [h]
@[simp] theorem bo_int {l : List D} : bclO cl gv .int l m = bclS .int l m := Eq.trans rfl rfl
@[simp] theorem bo_abs {l : List D} : bclO cl gv .abs l m = bclS .abs l m := Eq.trans rfl rfl
@[simp] theorem bo_list {l : List D} : bclO cl gv .list l m = bclS .list l m := Eq.trans rfl rfl
@[simp] theorem bo_listM {l : List D} : bclO cl gv .listM l m = bclS .listM l m := Eq.trans rfl rfl
@[simp] theorem bo_tuple {l : List D} : bclO cl gv .tuple l m = bclS .tuple l m := Eq.trans rfl rfl
@[simp] theorem bo_all {l : List D} : bclO cl gv .all l m = bclS .all l m := Eq.trans rfl rfl
@[simp] theorem bo_any {l : List D} : bclO cl gv .any l m = bclS .any l m := Eq.trans rfl rfl
@[simp] theorem bo_sum {l : List D} : bclO cl gv .sum l m = bclS .sum l m := Eq.trans rfl rfl
@[simp] theorem bo_str {l : List D} : bclO cl gv .str l m = bclS .str l m := Eq.trans rfl rfl
end
@[simp] theorem aP_nil : allP [] = some [] := Eq.trans rfl rfl
@[simp] theorem aP_cons {x : P} {l : List D} : allP (.p x :: l) = (allP l).map (x :: ·) := Eq.trans rfl rfl
@[simp] theorem mkT_ {l : List D} {ps : List P} {m : Mem} (h : allP l = some ps) : mkT l m = .ok (.p (.tup ps)) m := by unfold mkT; rw [h]
@[simp] theorem mkL_ {l : List D} {ps : List P} {m : Mem} (h : allP l = some ps) : mkL false l m = .ok (.p (.lst ps)) m := by unfold mkL; rw [h]
@[simp] theorem mkL_t {l : List D} {m : Mem} : mkL true l m = .ok (.ref m.length) (m.new (.lst l)) := Eq.trans rfl rfl

theorem ix_l {m : Mem} {l : List P} {k : Nat} {x : P} (e : l[k]? = some x) : ixS (.p (.lst l)) (.p (.int (k : Int))) m = .ok (.p x) m := by
  unfold ixS seqD
  have : (l.map D.p)[k]? = some (.p x) := by rw [List.getElem?_map, e]; rfl
  simp only
  rw [atI_nat this]
theorem ix_bag {m : Mem} {r : Nat} {l : List D} (h : m.get r = some (.lst l)) (k : Nat) {x : D} (e : l[k]? = some x) : ixS (.ref r) (.p (.int (k : Int))) m = .ok x m := by
  unfold ixS seqD
  simp only [h]
  rw [atI_nat e]
theorem iset_bag {m : Mem} {r : Nat} {l : List D} (h : m.get r = some (.lst l)) (k : Nat) (hk : k < l.length) (x : D) : isetS (.ref r) (.p (.int (k : Int))) x m = .ok () (m.put r (.lst (l.set k x))) := by
  unfold isetS
  simp only [h]
  have : ixN l.length (k : Int) = some k := by unfold ixN; simp [hk]
  rw [this]
end Dn
end

/-! Dn, part U: the drawn numbers. -/
noncomputable section
namespace Dn
open PySem PySem.Spec PyProof.Rows L2
/-! ### the law's bag of numbers -/
def bagO (c : List Int) (i q s n : Int) : MO := .lst [.p (.lst (c.map P.int)), .p (.int i), .p (.int q), .p (.int s), .p (.int n)]
def BagO (o : MO) : Prop := ∃ c i q s n, o = bagO c i q s n ∧ 0 ≤ i ∧ 0 ≤ q ∧ 0 ≤ s ∧ s < 2147483587
section
variable {m : Mem} {r : Nat} {c : List Int} {i q s n x : Int}
theorem bg0 (h : m.get r = some (bagO c i q s n)) : ixS (.ref r) (.p (.int 0)) m = .ok (.p (.lst (c.map P.int))) m := ix_bag h 0 rfl
theorem bg1 (h : m.get r = some (bagO c i q s n)) : ixS (.ref r) (.p (.int 1)) m = .ok (.p (.int i)) m := ix_bag h 1 rfl
theorem bg2 (h : m.get r = some (bagO c i q s n)) : ixS (.ref r) (.p (.int 2)) m = .ok (.p (.int q)) m := ix_bag h 2 rfl
theorem bg3 (h : m.get r = some (bagO c i q s n)) : ixS (.ref r) (.p (.int 3)) m = .ok (.p (.int s)) m := ix_bag h 3 rfl
theorem bg4 (h : m.get r = some (bagO c i q s n)) : ixS (.ref r) (.p (.int 4)) m = .ok (.p (.int n)) m := ix_bag h 4 rfl
theorem bs1 (h : m.get r = some (bagO c i q s n)) : isetS (.ref r) (.p (.int 1)) (.p (.int x)) m = .ok () (m.put r (bagO c x q s n)) := iset_bag h 1 (by simp) _
theorem bs2 (h : m.get r = some (bagO c i q s n)) : isetS (.ref r) (.p (.int 2)) (.p (.int x)) m = .ok () (m.put r (bagO c i x s n)) := iset_bag h 2 (by simp) _
theorem bs3 (h : m.get r = some (bagO c i q s n)) : isetS (.ref r) (.p (.int 3)) (.p (.int x)) m = .ok () (m.put r (bagO c i q x n)) := iset_bag h 3 (by simp) _
theorem bs4 (h : m.get r = some (bagO c i q s n)) : isetS (.ref r) (.p (.int 4)) (.p (.int x)) m = .ok () (m.put r (bagO c i q s x)) := iset_bag h 4 (by simp) _
end
def Run (b : FD) (o : MO) (many v : Int) (o' : MO) : Prop := ∀ (cl : Nat → List D → Mem → R D) (gv : Gv) (m : Mem) (r : Nat), m.get r = some o → runD cl gv b [.ref r, .p (.int many)] m = .ok (.p (.int v)) (m.put r o')
/-- behind the look at the script -/
theorem pull_t {c : List Int} {i q s n many : Int} (hi : 0 ≤ i) (hq : 0 ≤ q) (hs : 0 ≤ s) (hs2 : s < 2147483587) (h1 : 0 < many) (h2 : many < 1073741824) :
    ∃ v o, BagO o ∧ 0 ≤ v ∧ v < many ∧ ∀ (cl : Nat → List D → Mem → R D) (gv : Gv) (m : Mem) (r : Nat) (x2 x3 x4 x5 x6 : Option D), m.get r = some (bagO c i q s n) → endS (denB cl gv B__law_pull_7 [some (.ref r), some (.p (.int many)), x2, x3, x4, x5, x6] m) = .ok (.p (.int v)) (m.put r o) := by
  by_cases c1 : 0 < q
  · refine ⟨_, _, ⟨c, i, q / many, s, n, rfl, hi, Int.ediv_nonneg hq (Int.le_of_lt h1), hs, hs2⟩, Int.emod_nonneg q (Int.ne_of_gt h1), Int.emod_lt_of_pos q h1, fun cl gv m r x2 x3 x4 x5 x6 h => ?_⟩
    simp [B__law_pull_7, B__law_pull_6, B__law_pull_5, B__law_pull_4, denB, denS, den, denL, R.toS, bg2 h, c1, o_mod h1, o_fdiv h1 h2, bs2 h, endS]
  · refine ⟨_, _, ⟨c, i, q, _, n, rfl, hi, hq, Int.emod_nonneg (s * s * 11 + (s * 48731 + n * 131071 + 77003)) (show (2147483587 : Int) ≠ 0 by omega), Int.emod_lt_of_pos _ (by omega)⟩, Int.emod_nonneg ((s * s * 11 + (s * 48731 + n * 131071 + 77003)) % 2147483587 / 83 + (s * s * 11 + (s * 48731 + n * 131071 + 77003)) % 2147483587 % 8111 * 73) (Int.ne_of_gt h1), Int.emod_lt_of_pos _ h1, fun cl gv m r x2 x3 x4 x5 x6 h => ?_⟩
    have g3 := fun x => bg3 (r := r) (c := c) (i := i) (q := q) (n := n) (s := x) (Mem.get_put h)
    have mm : binS .mul (.p (.int s)) (.p (.int s)) m = .ok (.p (.int (s * s))) m := o_mulL (by omega) (by omega)
    simp [B__law_pull_7, B__law_pull_3, B__law_pull_2, B__law_pull_1, B__law_pull_0, denB, denS, den, denL, R.toS, bg2 h, c1, bg3 h, bg4 h, o_mulR, o_mod, o_fdiv, bs3 h, g3, mm, endS, h1]
theorem bag_flat {o : MO} (h : BagO o) : o.flat = true := by
  obtain ⟨c, i, q, s, n, rfl, _⟩ := h
  rfl
theorem pull_1 {o : MO} {many : Int} (hb : BagO o) (h1 : 0 < many) (h2 : many < 1073741824) : ∃ v o', BagO o' ∧ 0 ≤ v ∧ v < many ∧ Run D__law_pull o many v o' := by
  obtain ⟨c, i, q, s, n, rfl, hi, hq, hs, hs2⟩ := hb
  suffices hh : ∃ v o', BagO o' ∧ 0 ≤ v ∧ v < many ∧ ∀ (cl : Nat → List D → Mem → R D) (gv : Gv) (m : Mem) (r : Nat), m.get r = some (bagO c i q s n) → endS (denB cl gv B__law_pull_15 (startD 7 [.ref r, .p (.int many)]) m) = .ok (.p (.int v)) (m.put r o') by
    obtain ⟨v, o, b, z1, z2, e⟩ := hh
    refine ⟨v, o, b, z1, z2, fun cl gv m r h => ?_⟩
    unfold D__law_pull
    rw [runD_ok (np := 2) rfl, e cl gv m r h, trim_put (bag_flat b)]
  simp only [startD, List.map_cons, List.map_nil, List.length_cons, List.length_nil, List.replicate, List.cons_append, List.nil_append]
  have hp : ∀ {m : Mem} {r : Nat} {o : MO}, m.get r = some o → ∀ x, (m.put r x).get r = some x := fun h x => Mem.get_put h
  have fin : ∀ {c : List Int} {i q s n : Int}, 0 ≤ i → 0 ≤ q → 0 ≤ s → s < 2147483587 → ∃ v o, BagO o ∧ 0 ≤ v ∧ v < many ∧ ∀ (cl : Nat → List D → Mem → R D) (gv : Gv) (m : Mem) (r : Nat) (u : MO) (x2 x3 x4 x5 x6 : Option D), m.get r = some u → endS (denB cl gv B__law_pull_7 [some (.ref r), some (.p (.int many)), x2, x3, x4, x5, x6] (m.put r (bagO c i q s n))) = .ok (.p (.int v)) (m.put r o) := fun {c i q s n} ha hb hc hd => by
    obtain ⟨v, o, b, z1, z2, e⟩ := pull_t (c := c) (n := n) ha hb hc hd h1 h2
    refine ⟨v, o, b, z1, z2, fun cl gv m r u x2 x3 x4 x5 x6 h => ?_⟩
    have := e cl gv (m.put r (bagO c i q s n)) r x2 x3 x4 x5 x6 (Mem.get_put h)
    rwa [Mem.put_put] at this
  by_cases c1 : q = 0 ∧ i < c.length
  · obtain ⟨rfl, c2⟩ := c1
    obtain ⟨k, rfl⟩ : ∃ k : Nat, i = k := ⟨i.toNat, by omega⟩
    have hk : k < c.length := by omega
    have ex : ∀ {m : Mem}, ixS (.p (.lst (c.map P.int))) (.p (.int (k : Int))) m = .ok (.p (.int c[k])) m := ix_l (by rw [List.getElem?_map, List.getElem?_eq_getElem hk]; rfl)
    generalize c[k] = z at ex
    have haz : 0 ≤ (if z < 0 then -z else z) := by split <;> omega
    by_cases c3 : 1000000000000000000 ≤ (if z < 0 then -z else z)
    · obtain ⟨v, o, b, z1, z2, e⟩ := fin (c := c) (i := k + 1) (n := n + 1) (Int.add_nonneg hi (by decide)) haz hs hs2
      refine ⟨v, o, b, z1, z2, fun cl gv m r h => ?_⟩
      have hp := hp h
      have e := fun x2 x3 x4 x5 x6 => e cl gv m r _ x2 x3 x4 x5 x6 h
      simp [B__law_pull_15, B__law_pull_14, B__law_pull_13, B__law_pull_12, B__law_pull_11, B__law_pull_8, denB, denS, den, denL, R.toS, bg4 h, bs4 h, bg2 (hp _), bg1 (hp _), bg0 (hp _), c2, ex, bs1 (hp _), Mem.put_put, o_pow, c3, bs2 (hp _), hk]
      exact e _ _ _ _ _
    · obtain ⟨v, o, b, z1, z2, e⟩ := fin (c := c) (i := k + 1) (n := n + 1) (q := 0) (s := (s * 40009 + (z % 998244353 * 30011 + 59)) % 2147483587) (Int.add_nonneg hi (by decide)) (Int.le_refl 0) (Int.emod_nonneg _ (by decide)) (Int.emod_lt_of_pos _ (by decide))
      refine ⟨v, o, b, z1, z2, fun cl gv m r h => ?_⟩
      have hp := hp h
      have e := fun x2 x3 x4 x5 x6 => e cl gv m r _ x2 x3 x4 x5 x6 h
      simp [B__law_pull_15, B__law_pull_14, B__law_pull_13, B__law_pull_12, B__law_pull_11, B__law_pull_10, B__law_pull_9, denB, denS, den, denL, R.toS, bg4 h, bs4 h, bg2 (hp _), bg1 (hp _), bg0 (hp _), c2, ex, bs1 (hp _), Mem.put_put, o_pow, c3, hk, o_mod, o_mulR, bg3 (hp _), bs3 (hp _)]
      exact e _ _ _ _ _
  · by_cases c4 : q = 0
    · subst c4
      have c5 : ¬ i < c.length := fun z => c1 ⟨rfl, z⟩
      obtain ⟨v, o, b, z1, z2, e⟩ := fin (c := c) (i := i) (n := n + 1) (q := 0) (s := s) hi (Int.le_refl 0) hs hs2
      refine ⟨v, o, b, z1, z2, fun cl gv m r h => ?_⟩
      have hp := hp h
      have e := fun x2 x3 x4 x5 x6 => e cl gv m r _ x2 x3 x4 x5 x6 h
      simp [B__law_pull_15, B__law_pull_14, denB, denS, den, denL, R.toS, bg4 h, bs4 h, bg2 (hp _), bg1 (hp _), bg0 (hp _), c5]
      exact e _ _ _ _ _
    · obtain ⟨v, o, b, z1, z2, e⟩ := fin (c := c) (i := i) (n := n + 1) (q := q) (s := s) hi hq hs hs2
      refine ⟨v, o, b, z1, z2, fun cl gv m r h => ?_⟩
      have hp := hp h
      have e := fun x2 x3 x4 x5 x6 => e cl gv m r _ x2 x3 x4 x5 x6 h
      simp [B__law_pull_15, B__law_pull_14, denB, denS, den, denL, R.toS, bg4 h, bs4 h, bg2 (hp _), bg1 (hp _), bg0 (hp _), c4]
      exact e _ _ _ _ _
/-! ### the bag as a thing of its own; it lies at 0 -/
def Bag : Type := {o : MO // BagO o}
def Bg (b : Bag) (ms : Mem) : Mem := some b.1 :: ms
open Classical in
def Bag.pull (b : Bag) (n : Nat) : Nat × Bag := if h : 0 < n ∧ n < 1073741824 then
  let e := pull_1 (many := n) b.2 (Int.natCast_pos.mpr h.1) (by omega)
  (e.choose.toNat, ⟨e.choose_spec.choose, e.choose_spec.choose_spec.1⟩) else (0, b)
theorem Bag.pull_lt (b : Bag) {n : Nat} (h : 0 < n) : (b.pull n).1 < n := by
  unfold Bag.pull
  split
  · next h' =>
    have e := pull_1 (many := n) b.2 (Int.natCast_pos.mpr h'.1) (by omega)
    show (pull_1 (many := n) b.2 (Int.natCast_pos.mpr h'.1) (by omega)).choose.toNat < n
    have := (pull_1 (many := n) b.2 (Int.natCast_pos.mpr h'.1) (by omega)).choose_spec.choose_spec
    omega
  · exact h
abbrev Cl := Nat → List D → Mem → R D
/-- the contract of pull -/
def PullC (cl : Cl) : Prop := ∀ (b : Bag) (ms : Mem) (n : Nat), 0 < n → n < 1073741824 → cl 3 [.ref 0, .p (.int (n : Int))] (Bg b ms) = .ok (.p (.int (((b.pull n).1 : Nat) : Int))) (Bg (b.pull n).2 ms)
theorem pull_ok {p : Pg} {k : Nat} (hf : p.fd 3 = some D__law_pull) : PullC (callAt p (k + 1)) := fun b ms n h1 h2 => by
  rw [callAt_ok hf]
  have e := pull_1 (many := n) b.2 (Int.natCast_pos.mpr h1) (by omega)
  unfold Bag.pull
  rw [dif_pos ⟨h1, h2⟩]
  have := (pull_1 (many := n) b.2 (Int.natCast_pos.mpr h1) (by omega)).choose_spec.choose_spec
  have z := this.2.2.2 (callAt p k) p.gv (Bg b ms) 0 rfl
  rw [z]
  show R.ok _ _ = R.ok _ _
  congr 3
  exact (Int.toNat_of_nonneg this.2.1).symm
end Dn
end

/-! Dn, part V: texts as lists of signs; comprehensions by their items. -/
noncomputable section
namespace Dn
open PySem PySem.Spec PyProof.Rows L2
/-! ### texts -/
def mk (l : List Nat) : Str := ⟨l.toArray⟩
theorem mk_of (s : Str) : s = mk s.cps.toList := by
  obtain ⟨a⟩ := s
  rfl
@[simp] theorem mk_list (l : List Nat) : (mk l).cps.toList = l := rfl
@[simp] theorem mk_len (l : List Nat) : (mk l).length = l.length := by simp [mk, Str.length]
theorem mk_app (l r : List Nat) : mk l ++ mk r = mk (l ++ r) := by
  show Str.append (mk l) (mk r) = _
  unfold Str.append mk
  simp
theorem mk_inj {l r : List Nat} : mk l = mk r ↔ l = r := ⟨fun h => by have := congrArg (fun s : Str => s.cps.toList) h; simpa using this, fun h => by rw [h]⟩
theorem mk_cut (l : List Nat) (lo hi : Option Int) : cutS (mk l) lo hi = mk ((l.drop (HT.sIx l.length 0 lo)).take (HT.sIx l.length l.length hi - HT.sIx l.length 0 lo)) := by
  unfold cutS
  rw [mk_len]
  rfl
theorem cut_to (l : List Nat) (k : Nat) : cutS (mk l) none (some (k : Int)) = mk (l.take k) := by
  rw [mk_cut, HT.sIx_none, HT.sIx_nat, List.drop_zero, Nat.sub_zero, Nat.min_comm]
  congr 1
  by_cases h : k ≤ l.length
  · rw [Nat.min_eq_right h]
  · rw [Nat.min_eq_left (by omega), List.take_of_length_le (Nat.le_refl _), List.take_of_length_le (by omega)]
theorem cut_from (l : List Nat) (k : Nat) : cutS (mk l) (some (k : Int)) none = mk (l.drop k) := by
  rw [mk_cut, HT.sIx_none, HT.sIx_nat]
  congr 1
  by_cases h : k ≤ l.length
  · rw [Nat.min_eq_left h, List.take_of_length_le (by simp)]
  · rw [Nat.min_eq_right (by omega), List.drop_of_length_le (Nat.le_refl _), List.drop_of_length_le (by omega), List.take_nil]
section
variable {m : Mem} {l r : List Nat}
theorem o_cat (h : l.length + r.length ≤ sizeLine) : binS .add (.p (.str (mk l))) (.p (.str (mk r))) m = .ok (.p (.str (mk (l ++ r)))) m := by
  have : binS .add (.p (.str (mk l))) (.p (.str (mk r))) m = if (mk l).length + (mk r).length ≤ sizeLine then .ok (.p (.str (mk l ++ mk r))) m else .no := rfl
  rw [this, mk_len, mk_len, if_pos h, mk_app]
theorem s_to (k : Nat) : slS (.p (.str (mk l))) none (some (k : Int)) m = .ok (.p (.str (mk (l.take k)))) m := by
  have : slS (.p (.str (mk l))) none (some (k : Int)) m = .ok (.p (.str (cutS (mk l) none (some (k : Int))))) m := rfl
  rw [this, cut_to]
theorem s_from (k : Nat) : slS (.p (.str (mk l))) (some (k : Int)) none m = .ok (.p (.str (mk (l.drop k)))) m := by
  have : slS (.p (.str (mk l))) (some (k : Int)) none m = .ok (.p (.str (cutS (mk l) (some (k : Int)) none))) m := rfl
  rw [this, cut_from]
theorem ix_s {k c : Nat} (e : l[k]? = some c) : ixS (.p (.str (mk l))) (.p (.int (k : Int))) m = .ok (.p (.str (mk [c]))) m := by
  have : ixS (.p (.str (mk l))) (.p (.int (k : Int))) m = (match atI (mk l).cps.toList (k : Int) with | some c => .ok (.p (.str ⟨#[c]⟩)) m | none => .no) := rfl
  rw [this, mk_list, atI_nat e]
  rfl
@[simp] theorem len_mk : bclS .len [.p (.str (mk l))] m = .ok (.p (.int (l.length : Int))) m := by rw [len_s, mk_len]
theorem joinL_nil : ∀ ps : List (List Nat), TL.joinL [] ps = ps.flatten
  | [] => rfl
  | [p] => by simp [TL.joinL]
  | p :: q :: r => by
    show p ++ ([] ++ TL.joinL [] (q :: r)) = _
    rw [joinL_nil (q :: r)]
    simp
theorem join_mk (ls : List (List Nat)) : Txt.join (mk []) (ls.map mk) = mk ls.flatten := by
  rw [TL.join_eq, mk_of (Str.join (mk []) (ls.map mk))]
  congr 1
  have := TL.tl_join (mk []) (ls.map mk)
  refine this.trans ?_
  rw [List.map_map]
  have e : (TL.tl ∘ mk) = id := by funext l; exact mk_list l
  rw [e, List.map_id]
  exact joinL_nil ls
theorem blsP_map (l : List Bool) : blsP (l.map P.bl) = some l := by
  induction l with
  | nil => rfl
  | cons x l ih => show (blsP (l.map P.bl)).map (x :: ·) = _; rw [ih]; rfl
theorem sum_len (ls : List (List Nat)) : ((ls.map mk).map Str.length).sum = ls.flatten.length := by
  induction ls with
  | nil => rfl
  | cons p ls ih => simp only [List.map_cons, List.sum_cons, mk_len, ih, List.flatten_cons, List.length_append]
theorem j_join {ls : List (List Nat)} (h : ls.flatten.length ≤ 16777216) : bmtS .join (.p (.str (mk []))) [.p (.lst ((ls.map mk).map P.str))] m = .ok (.p (.str (mk ls.flatten))) m := by
  unfold bmtS joinS seqP seqD
  simp only [allP_map, Option.bind_some, strsP_map, sum_len, mk_len, List.length_nil, Nat.mul_zero, Nat.add_zero, if_pos h, join_mk]
@[simp] theorem all_ (l : List Bool) : bclS .all [.p (.lst (l.map P.bl))] m = .ok (.p (.bl (l.all id))) m := by
  have e : bclS .all [.p (.lst (l.map P.bl))] m = onL blsP (fun bs => .bl (bs.all id)) (.p (.lst (l.map P.bl))) m := Eq.trans rfl rfl
  rw [e]
  unfold onL
  simp only [rdP, blsP_map]
end
/-! ### comprehensions -/
theorem lc_pure {f : D → Mem → R (Option D)} {t : Its} (ht : t.n = none) {g : D → D} {m : Mem} : ∀ {l : List D}, (∀ x ∈ l, f x m = .ok (some (g x)) m) → lcRun f t l m = .ok (l.map g) m
  | [], _ => by
    unfold lcRun
    rw [if_pos (by unfold Its.held; rw [ht]; trivial)]
    rfl
  | x :: l, h => by
    unfold lcRun
    rw [if_pos (by unfold Its.held; rw [ht]; trivial), h x List.mem_cons_self]
    show (lcRun f t l m).bind _ = _
    rw [lc_pure ht fun y hy => h y (List.mem_cons_of_mem _ hy)]
    rfl
theorem lc_map {α : Type} {f : D → Mem → R (Option D)} {t : Its} (ht : t.n = none) {h g : α → D} {m : Mem} : ∀ {l : List α}, (∀ x ∈ l, f (h x) m = .ok (some (g x)) m) → lcRun f t (l.map h) m = .ok (l.map g) m
  | [], _ => by
    rw [List.map_nil]
    unfold lcRun
    rw [if_pos (by unfold Its.held; rw [ht]; trivial)]
    rfl
  | x :: l, hh => by
    rw [List.map_cons]
    unfold lcRun
    rw [if_pos (by unfold Its.held; rw [ht]; trivial), hh x List.mem_cons_self]
    show (lcRun f t (l.map h) m).bind _ = _
    rw [lc_map ht fun y hy => hh y (List.mem_cons_of_mem _ hy)]
    rfl
theorem lc_filt {f : D → Mem → R (Option D)} {t : Its} (ht : t.n = none) {g : D → Option D} {m : Mem} : ∀ {l : List D}, (∀ x ∈ l, f x m = .ok (g x) m) → lcRun f t l m = .ok (l.filterMap g) m
  | [], _ => by
    unfold lcRun
    rw [if_pos (by unfold Its.held; rw [ht]; trivial)]
    rfl
  | x :: l, h => by
    unfold lcRun
    rw [if_pos (by unfold Its.held; rw [ht]; trivial), h x List.mem_cons_self]
    show (lcRun f t l m).bind _ = _
    rw [lc_filt ht fun y hy => h y (List.mem_cons_of_mem _ hy), List.filterMap_cons]
    cases g x <;> rfl
/-- pure data all -/
theorem mkL_p {l : List P} {m : Mem} : mkL false (l.map D.p) m = .ok (.p (.lst l)) m := mkL_ (allP_map l)
theorem mkT_p {l : List P} {m : Mem} : mkT (l.map D.p) m = .ok (.p (.tup l)) m := mkT_ (allP_map l)
/-! ### the store with the bag ahead -/
section
variable {b b' : Bag} {ms l : Mem} {o u : MO} {x : P} {d : D}
@[simp] theorem bg_new : (Bg b ms).new o = Bg b (ms ++ [some o]) := rfl
@[simp] theorem bg_len : (Bg b ms).length = ms.length + 1 := rfl
@[simp] theorem bg_geta : (Bg b (ms ++ [some o])).get (ms.length + 1) = some o := by
  unfold Bg Mem.get
  simp
@[simp] theorem bg_puta : (Bg b (ms ++ [some o])).put (ms.length + 1) u = Bg b (ms ++ [some u]) := by
  unfold Bg Mem.put
  simp
@[simp] theorem bg_killa : (Bg b (ms ++ [some o])).kill (ms.length + 1) = Bg b (ms ++ [none]) := by
  unfold Bg Mem.kill
  simp
theorem bg_tame : Tame (Bg b ms) (Bg b' (ms ++ l)) := by
  refine ⟨by simp, fun n h => ?_⟩
  rw [bg_len] at h
  cases n with
  | zero => exact .inr ⟨some b'.1, rfl, fun q e => by cases e; exact bag_flat b'.2⟩
  | succ n =>
    left
    show (ms ++ l)[n]? = ms[n]?
    exact List.getElem?_append_left (by omega)
theorem trim_bgA : trimR (Bg b ms) (.ok (.p x) (Bg b' (ms ++ l))) = .ok (.p x) (Bg b' ms) := by
  rw [trim_tame bg_tame]
  show R.ok (D.p x) (some b'.1 :: (ms ++ l).take ms.length) = _
  rw [List.take_left]
  rfl
@[simp] theorem trim_bg : trimR (Bg b ms) (.ok (.p x) (Bg b' ms)) = .ok (.p x) (Bg b' ms) := by
  have := trim_bgA (b := b) (b' := b') (ms := ms) (l := []) (x := x)
  rwa [List.append_nil] at this
@[simp] theorem trim_bg1 {o : Option MO} : trimR (Bg b ms) (.ok (.p x) (Bg b' (ms ++ [o]))) = .ok (.p x) (Bg b' ms) := trim_bgA
theorem trimU_bgA : trimU (Bg b ms) (.ok d (Bg b' (ms ++ l))) = .ok (.p .non) (Bg b' ms) := by
  rw [trimU_tame bg_tame]
  show R.ok (D.p .non) (some b'.1 :: (ms ++ l).take ms.length) = _
  rw [List.take_left]
  rfl
@[simp] theorem trimU_bg : trimU (Bg b ms) (.ok d (Bg b' ms)) = .ok (.p .non) (Bg b' ms) := by
  have := trimU_bgA (b := b) (b' := b') (ms := ms) (l := []) (d := d)
  rwa [List.append_nil] at this
/-- the list behind is changed -/
theorem bg_tame1 (h : u.flat = true) : Tame (Bg b (ms ++ [some o])) (Bg b' (ms ++ some u :: l)) := by
  refine ⟨by simp, fun n h' => ?_⟩
  rw [bg_len, List.length_append, List.length_singleton] at h'
  cases n with
  | zero => exact .inr ⟨some b'.1, rfl, fun q e => by cases e; exact bag_flat b'.2⟩
  | succ n =>
    by_cases c : n < ms.length
    · left
      show (ms ++ some u :: l)[n]? = (ms ++ [some o])[n]?
      rw [List.getElem?_append_left c, List.getElem?_append_left c]
    · have : n = ms.length := by omega
      subst this
      right
      refine ⟨some u, ?_, fun q e => by cases e; exact h⟩
      show (ms ++ some u :: l)[ms.length]? = _
      simp
theorem trimU_bgu (h : u.flat = true) : trimU (Bg b (ms ++ [some o])) (.ok d (Bg b' (ms ++ [some u]))) = .ok (.p .non) (Bg b' (ms ++ [some u])) := by
  rw [trimU_tame (bg_tame1 h)]
  congr 1
  show some b'.1 :: (ms ++ [some u]).take (ms ++ [some o]).length = _
  rw [List.take_of_length_le (by simp)]
  rfl
end
/-! ### the drawn -/
/-- one after the other, the bag going on -/
def mapB {α β : Type} (F : α → Bag → β × Bag) : List α → Bag → List β × Bag
  | [], b => ([], b)
  | x :: l, b => ((F x b).1 :: (mapB F l (F x b).2).1, (mapB F l (F x b).2).2)
theorem mapB_len {α β : Type} {F : α → Bag → β × Bag} : ∀ {l : List α} {b : Bag}, (mapB F l b).1.length = l.length
  | [], _ => rfl
  | _ :: l, _ => congrArg Nat.succ (mapB_len (l := l))
theorem mapB_all {α β : Type} {F : α → Bag → β × Bag} {Q : β → Prop} : ∀ {l : List α} {b : Bag}, (∀ x ∈ l, ∀ b, Q (F x b).1) → ∀ y ∈ (mapB F l b).1, Q y
  | [], _, _, _, h => by cases h
  | x :: l, b, hq, y, h => by
    rcases List.mem_cons.mp h with e | e
    · rw [e]; exact hq x List.mem_cons_self b
    · exact mapB_all (fun z hz => hq z (List.mem_cons_of_mem _ hz)) y e
theorem mapB_map {α β γ : Type} {F : α → Bag → β × Bag} {p : α → γ} {q : β → γ} : ∀ {l : List α} {b : Bag}, (∀ x ∈ l, ∀ b, q (F x b).1 = p x) → (mapB F l b).1.map q = l.map p
  | [], _, _ => rfl
  | x :: l, b, h => by
    show q (F x b).1 :: (mapB F l (F x b).2).1.map q = _
    rw [h x List.mem_cons_self b, mapB_map fun z hz => h z (List.mem_cons_of_mem _ hz)]
    rfl
theorem lc_bag {α β : Type} {f : D → Mem → R (Option D)} {t : Its} (ht : t.n = none) {F : α → Bag → β × Bag} {h : α → D} {g : β → D} {ms : Mem} : ∀ {l : List α} {b : Bag}, (∀ x ∈ l, ∀ b, f (h x) (Bg b ms) = .ok (some (g (F x b).1)) (Bg (F x b).2 ms)) → lcRun f t (l.map h) (Bg b ms) = .ok ((mapB F l b).1.map g) (Bg (mapB F l b).2 ms)
  | [], b, _ => by
    rw [List.map_nil]
    unfold lcRun
    rw [if_pos (by unfold Its.held; rw [ht]; trivial)]
    rfl
  | x :: l, b, hh => by
    rw [List.map_cons]
    unfold lcRun
    rw [if_pos (by unfold Its.held; rw [ht]; trivial), hh x List.mem_cons_self]
    show (lcRun f t (l.map h) _).bind _ = _
    rw [lc_bag ht fun y hy => hh y (List.mem_cons_of_mem _ hy)]
    rfl
def BagC (cl : Cl) : Prop := ∀ (ns : List Int), ns.length ≤ 63 → ∃ b, cl 2 [.p (.scr ns)] [] = .ok (.ref 0) (Bg b [])
theorem bag_1 {cl : Cl} {gv : Gv} {ns : List Int} : ∃ b, runD cl gv D__law_bag [.p (.scr ns)] [] = .ok (.ref 0) (Bg b []) := by
  unfold D__law_bag
  rw [runD_ok (np := 1) rfl]
  have e1 : slS (.p (.scr ns)) none (some 63) [] = .ok (.p (.lst ((cutD ns none (some 63)).map P.int))) [] := rfl
  have e2 : bclS .list [.p (.lst ((cutD ns none (some 63)).map P.int))] [] = .ok (.p (.lst ((cutD ns none (some 63)).map P.int))) [] := by
    exact list_l
  refine ⟨⟨bagO (cutD ns none (some 63)) 0 0 4914 0, ⟨_, _, _, _, _, rfl, by decide, by decide, by decide, by decide⟩⟩, ?_⟩
  simp [B__law_bag_0, e1, e2]
  rfl
theorem bag_ok {p : Pg} {k : Nat} (hf : p.fd 2 = some D__law_bag) : BagC (callAt p (k + 1)) := fun ns hl => by
  rw [callAt_ok hf]
  exact bag_1
/-- one of some -/
def Bag.of {α : Type} [Inhabited α] (b : Bag) (l : List α) : α × Bag := (l[(b.pull l.length).1]?.getD default, (b.pull l.length).2)
theorem Bag.of_eq {α : Type} [Inhabited α] (b : Bag) {l : List α} (h : l ≠ []) : l[(b.pull l.length).1]? = some (b.of l).1 := by
  have := b.pull_lt (List.length_pos_iff.mpr h)
  unfold Bag.of
  rw [List.getElem?_eq_getElem this]
  rfl
theorem Bag.of_mem {α : Type} [Inhabited α] (b : Bag) {l : List α} (h : l ≠ []) : (b.of l).1 ∈ l := List.mem_of_getElem? (b.of_eq h)
structure OfC (cl : Cl) : Prop where
  l : ∀ {α : Type} [Inhabited α] (f : α → P) (b : Bag) (ms : Mem) (l : List α), l ≠ [] → l.length < 1073741824 → cl 4 [.ref 0, .p (.lst (l.map f))] (Bg b ms) = .ok (.p (f (b.of l).1)) (Bg (b.of l).2 ms)
  s : ∀ (b : Bag) (ms : Mem) (l : List Nat), l ≠ [] → l.length < 1073741824 → cl 4 [.ref 0, .p (.str (mk l))] (Bg b ms) = .ok (.p (.str (mk [(b.of l).1]))) (Bg (b.of l).2 ms)
section
variable {cl : Cl} {gv : Gv} {ms : Mem} {b : Bag}
theorem of_l1 (P1 : PullC cl) {α : Type} [Inhabited α] {f : α → P} {l : List α} (h1 : l ≠ []) (h2 : l.length < 1073741824) : runD cl gv D__law_of [.ref 0, .p (.lst (l.map f))] (Bg b ms) = .ok (.p (f (b.of l).1)) (Bg (b.of l).2 ms) := by
  have e : (l.map f)[(b.pull l.length).1]? = some (f (b.of l).1) := by rw [List.getElem?_map, b.of_eq h1]; rfl
  unfold D__law_of
  rw [runD_ok (np := 2) rfl]
  simp [B__law_of_0, P1 b ms l.length (List.length_pos_iff.mpr h1) h2, ix_l e]
  rfl
theorem of_s1 (P1 : PullC cl) {l : List Nat} (h1 : l ≠ []) (h2 : l.length < 1073741824) : runD cl gv D__law_of [.ref 0, .p (.str (mk l))] (Bg b ms) = .ok (.p (.str (mk [(b.of l).1]))) (Bg (b.of l).2 ms) := by
  unfold D__law_of
  rw [runD_ok (np := 2) rfl]
  simp [B__law_of_0, P1 b ms l.length (List.length_pos_iff.mpr h1) h2, ix_s (b.of_eq h1)]
  rfl
end
theorem of_ok {p : Pg} {k : Nat} (hp : p.fd 3 = some D__law_pull) (hf : p.fd 4 = some D__law_of) : OfC (callAt p (k + 2)) where
  l f b ms l h1 h2 := by rw [callAt_ok hf]; exact of_l1 (pull_ok hp) h1 h2
  s b ms l h1 h2 := by rw [callAt_ok hf]; exact of_s1 (pull_ok hp) h1 h2
end Dn
end

/-! Dn, part W: drawn words; kinds; equal data. -/
noncomputable section
namespace Dn
open PySem PySem.Spec PyProof.Rows L2
def alpha : List Nat := (List.range 26).map (97 + ·)
theorem alpha_str : Str.ofString "abcdefghijklmnopqrstuvwxyz" = mk alpha := by decide +kernel
theorem empty_str : Str.ofString "" = mk [] := by decide +kernel
theorem alpha_mem {c : Nat} : c ∈ alpha ↔ 97 ≤ c ∧ c ≤ 122 := by
  unfold alpha
  rw [List.mem_map]
  constructor
  · rintro ⟨i, hi, rfl⟩
    have := List.mem_range.mp hi
    omega
  · rintro ⟨h1, h2⟩
    exact ⟨c - 97, List.mem_range.mpr (by omega), by omega⟩
theorem alpha_len : alpha.length = 26 := by decide
theorem alpha_get {i : Nat} (h : i < 26) : alpha[i]? = some (97 + i) := by
  unfold alpha
  rw [List.getElem?_map, List.getElem?_range h]
  rfl
/-- a name -/
def IsNm (l : List Nat) : Prop := 1 ≤ l.length ∧ l.length ≤ 6 ∧ ∀ c ∈ l, 97 ≤ c ∧ c ≤ 122
theorem line_le {n : Nat} (h : n ≤ 16777216) : n ≤ sizeLine := by rw [PySem.sizeLine_eq]; exact h
theorem rng_ {n : Nat} (h : n ≤ 16777216) : itRng (.p (.int (n : Int))) = some ⟨(List.range n).map fun (k : Nat) => .p (.int (k : Int)), none⟩ := by
  have : itRng (.p (.int (n : Int))) = if -(2 ^ 62) ≤ (n : Int) ∧ (n : Int) ≤ sizeLine then some ⟨(List.range (n : Int).toNat).map fun (k : Nat) => .p (.int (k : Int)), none⟩ else none := rfl
  have z := line_le h
  rw [this, if_pos ⟨by omega, by omega⟩]
  rfl
/-- texts of one sign each -/
def sgns (cs : List Nat) : List P := cs.map fun c => .str (mk [c])
theorem sgns_len (cs : List Nat) : (sgns cs).length = cs.length := by simp [sgns]
theorem flat_sgn (cs : List Nat) : (cs.map fun c => [c]).flatten = cs := by
  induction cs with
  | nil => rfl
  | cons c l ih => rw [List.map_cons, List.flatten_cons, ih]; rfl
theorem join_sgns {cs : List Nat} {m : Mem} (h : cs.length ≤ 16777216) : bmtS .join (.p (.str (mk []))) [.p (.lst (sgns cs))] m = .ok (.p (.str (mk cs))) m := by
  have e : sgns cs = ((cs.map fun c => [c]).map mk).map P.str := by simp [sgns, Function.comp_def]
  rw [e, j_join (by rw [flat_sgn]; omega), flat_sgn]
/-- the letter put in for the k-th word -/
def wordAt (stem : List Nat) (a f k : Nat) : List Nat := stem.take a ++ ([97 + (f + 7 * k) % 26] ++ stem.drop a)
abbrev Tx := List Nat
def S1 (l : Tx) : P := .str (mk l)
def Bag.stem (b : Bag) : Tx × Bag := mapB (fun _ b => b.of alpha) (List.range (b.pull 6).1) (b.pull 6).2
def Bag.words (b : Bag) (n : Nat) : List Tx × Bag :=
  let s := b.stem
  let a := s.2.pull (s.1.length + 1)
  let f := a.2.pull 26
  ((List.range n).map (wordAt s.1 a.1 f.1), f.2)
theorem Bag.stem_len (b : Bag) : b.stem.1.length ≤ 5 := by
  unfold Bag.stem
  rw [mapB_len, List.length_range]
  have := b.pull_lt (n := 6) (by decide)
  omega
theorem Bag.stem_in (b : Bag) : ∀ c ∈ b.stem.1, c ∈ alpha := by
  unfold Bag.stem
  exact mapB_all fun x hx b => b.of_mem (by decide)
section
variable {cl : Cl} {gv : Gv} {ms : Mem} {b : Bag}
theorem words_1 (P1 : PullC cl) (O1 : OfC cl) (n : Nat) (hn : n ≤ 1000000) : runD cl gv D__law_words [.ref 0, .p (.int n)] (Bg b ms) = .ok (.p (.lst ((b.words n).1.map S1))) (Bg (b.words n).2 ms) := by
  unfold D__law_words
  rw [runD_ok (np := 2) rfl]
  have alp := alpha_str
  have emp := empty_str
  have hz := b.stem_len
  have j6 := b.pull_lt (n := 6) (by decide)
  have e1 : cl 3 [.ref 0, .p (.int 6)] (Bg b ms) = _ := P1 b ms 6 (by decide) (by decide)
  have s1 : den cl gv (.lc false (.call 4 (.cons (.var 0) (.cons (.var 2) .nil))) (.nm 6) (.rng (.call 3 (.cons (.var 0) (.cons (.cst (.int 6)) .nil)))) .none [6]) [some (.ref 0), some (.p (.int n)), some (.p (.str (mk alpha))), none, none, none, none] (Bg b ms) = .ok (.p (.lst (sgns b.stem.1))) (Bg b.stem.2 ms) := by
    rw [v_lc]
    simp [e1, rng_ (show (b.pull 6).1 ≤ 16777216 by omega)]
    rw [lc_bag (F := fun _ b => b.of alpha) (g := fun c => .p (.str (mk [c]))) rfl fun x hx b => by simp [turn_, wipeD, O1.s b ms alpha (by decide) (by decide)]]
    have e : ∀ l : List Nat, l.map (fun c => D.p (.str (mk [c]))) = (sgns l).map D.p := fun l => by simp [sgns, Function.comp_def]
    simp only [R.bind_ok, e]
    exact mkL_p
  have e3 : cl 3 [.ref 0, .p (.int ((b.stem.1.length : Int) + 1))] (Bg b.stem.2 ms) = _ := P1 b.stem.2 ms (b.stem.1.length + 1) (by omega) (by omega)
  have e4 : cl 3 [.ref 0, .p (.int 26)] (Bg (b.stem.2.pull (b.stem.1.length + 1)).2 ms) = _ := P1 (b.stem.2.pull (b.stem.1.length + 1)).2 ms 26 (by decide) (by decide)
  have e5 : b.words n = ((List.range n).map (wordAt b.stem.1 (b.stem.2.pull (b.stem.1.length + 1)).1 ((b.stem.2.pull (b.stem.1.length + 1)).2.pull 26).1), ((b.stem.2.pull (b.stem.1.length + 1)).2.pull 26).2) := rfl
  have u3 := b.stem.2.pull_lt (n := b.stem.1.length + 1) (by omega)
  rw [e5]
  simp [B__law_words_3, B__law_words_2, alp, emp, s1, bmPre, bmL, join_sgns (show b.stem.1.length ≤ 16777216 by omega)]
  simp [B__law_words_1, e3, e4]
  rw [B__law_words_0]
  generalize (b.stem.2.pull (b.stem.1.length + 1)).1 = a at *
  generalize ((b.stem.2.pull (b.stem.1.length + 1)).2.pull 26).1 = f at *
  generalize ((b.stem.2.pull (b.stem.1.length + 1)).2.pull 26).2 = b4 at *
  generalize b.stem.1 = cs at *
  simp [v_lc, rng_ (show n ≤ 16777216 by omega)]
  rw [lc_map (g := fun k => .p (S1 (wordAt cs a f k))) rfl fun j hj => ?_]
  · have e : (List.range n).map (fun k => D.p (S1 (wordAt cs a f k))) = ((List.range n).map (fun k => S1 (wordAt cs a f k))).map D.p := by simp [Function.comp_def]
    simp only [R.bind_ok, e]
    rw [mkL_p]
    simp [Function.comp_def]
  · have ei : ixS (.p (.str (mk alpha))) (.p (.int (((f : Int) + 7 * (j : Int)) % 26))) (Bg b4 ms) = .ok (.p (.str (mk [97 + (f + 7 * j) % 26]))) (Bg b4 ms) := by
      have : ((f : Int) + 7 * (j : Int)) % 26 = (((f + 7 * j) % 26 : Nat) : Int) := by omega
      rw [this]
      exact ix_s (alpha_get (Nat.mod_lt _ (by decide)))
    have z : cs.length ≤ sizeLine := line_le (by omega)
    simp [turn_, wipeD, s_to, s_from, o_mulL, o_mod, ei]
    rw [o_cat (line_le (by simp; omega))]
    simp
    rw [o_cat (line_le (by simp; omega))]
    simp [wordAt, S1]
end
theorem wordAt_nm {stem : List Nat} {a f k : Nat} (h1 : stem.length ≤ 5) (h2 : ∀ c ∈ stem, 97 ≤ c ∧ c ≤ 122) (h3 : a ≤ stem.length) : IsNm (wordAt stem a f k) := by
  unfold wordAt IsNm
  refine ⟨by simp; omega, by simp; omega, fun c hc => ?_⟩
  rcases List.mem_append.mp hc with h | h
  · exact h2 c (List.mem_of_mem_take h)
  rcases List.mem_append.mp h with h | h
  · have : c = 97 + (f + 7 * k) % 26 := by simpa using h
    omega
  · exact h2 c (List.mem_of_mem_drop h)
def WordsC (cl : Cl) : Prop := ∀ (b : Bag) (ms : Mem) (n : Nat), n ≤ 1000000 → cl 6 [.ref 0, .p (.int n)] (Bg b ms) = .ok (.p (.lst ((b.words n).1.map S1))) (Bg (b.words n).2 ms)
theorem words_ok {p : Pg} {k : Nat} (hp : p.fd 3 = some D__law_pull) (ho : p.fd 4 = some D__law_of) (hf : p.fd 6 = some D__law_words) : WordsC (callAt p (k + 3)) := fun b ms n hn => by
  rw [callAt_ok hf]
  exact words_1 (pull_ok hp) (of_ok hp ho) n hn
theorem Bag.words_len (b : Bag) {n : Nat} : (b.words n).1.length = n := by simp [Bag.words]
/-! ### kinds -/
theorem ty_of {d : D} {m : Mem} {k : Nat ⊕ String} (h : kindS d m = some k) : ∀ c : List Ty, isTys c d m = some (c.any fun t => isK t k)
  | [] => rfl
  | t :: c => by
    have e : isTy t d m = some (isK t k) := by unfold isTy; rw [h]; rfl
    unfold isTys
    rw [e, List.any_cons]
    cases isK t k with
    | true => rfl
    | false => exact (ty_of h c).trans (by simp)
@[simp] theorem ty_non_int {m : Mem} : isTys [.int] (.p .non) m = some false := (ty_of (k := .inr "NoneType") rfl _).trans (by decide)
@[simp] theorem ty_non_bool {m : Mem} : isTys [.bool] (.p .non) m = some false := (ty_of (k := .inr "NoneType") rfl _).trans (by decide)
@[simp] theorem ty_non_str {m : Mem} : isTys [.str] (.p .non) m = some false := (ty_of (k := .inr "NoneType") rfl _).trans (by decide)
@[simp] theorem ty_non_list {m : Mem} : isTys [.list] (.p .non) m = some false := (ty_of (k := .inr "NoneType") rfl _).trans (by decide)
@[simp] theorem ty_non_tuple {m : Mem} : isTys [.tuple] (.p .non) m = some false := (ty_of (k := .inr "NoneType") rfl _).trans (by decide)
@[simp] theorem ty_non_dict {m : Mem} : isTys [.dict] (.p .non) m = some false := (ty_of (k := .inr "NoneType") rfl _).trans (by decide)
@[simp] theorem ty_non_lt {m : Mem} : isTys [.list, .tuple] (.p .non) m = some false := (ty_of (k := .inr "NoneType") rfl _).trans (by decide)
@[simp] theorem isN_non : isN (.p .non) = true := Eq.trans rfl rfl
@[simp] theorem ty_bl_int {b : Bool} {m : Mem} : isTys [.int] (.p (.bl b)) m = some true := (ty_of (k := .inr "bool") rfl _).trans (by decide)
@[simp] theorem ty_bl_bool {b : Bool} {m : Mem} : isTys [.bool] (.p (.bl b)) m = some true := (ty_of (k := .inr "bool") rfl _).trans (by decide)
@[simp] theorem ty_bl_str {b : Bool} {m : Mem} : isTys [.str] (.p (.bl b)) m = some false := (ty_of (k := .inr "bool") rfl _).trans (by decide)
@[simp] theorem ty_bl_list {b : Bool} {m : Mem} : isTys [.list] (.p (.bl b)) m = some false := (ty_of (k := .inr "bool") rfl _).trans (by decide)
@[simp] theorem ty_bl_tuple {b : Bool} {m : Mem} : isTys [.tuple] (.p (.bl b)) m = some false := (ty_of (k := .inr "bool") rfl _).trans (by decide)
@[simp] theorem ty_bl_dict {b : Bool} {m : Mem} : isTys [.dict] (.p (.bl b)) m = some false := (ty_of (k := .inr "bool") rfl _).trans (by decide)
@[simp] theorem ty_bl_lt {b : Bool} {m : Mem} : isTys [.list, .tuple] (.p (.bl b)) m = some false := (ty_of (k := .inr "bool") rfl _).trans (by decide)
@[simp] theorem isN_bl {b : Bool} : isN (.p (.bl b)) = false := Eq.trans rfl rfl
@[simp] theorem ty_int_int {i : Int} {m : Mem} : isTys [.int] (.p (.int i)) m = some true := (ty_of (k := .inr "int") rfl _).trans (by decide)
@[simp] theorem ty_int_bool {i : Int} {m : Mem} : isTys [.bool] (.p (.int i)) m = some false := (ty_of (k := .inr "int") rfl _).trans (by decide)
@[simp] theorem ty_int_str {i : Int} {m : Mem} : isTys [.str] (.p (.int i)) m = some false := (ty_of (k := .inr "int") rfl _).trans (by decide)
@[simp] theorem ty_int_list {i : Int} {m : Mem} : isTys [.list] (.p (.int i)) m = some false := (ty_of (k := .inr "int") rfl _).trans (by decide)
@[simp] theorem ty_int_tuple {i : Int} {m : Mem} : isTys [.tuple] (.p (.int i)) m = some false := (ty_of (k := .inr "int") rfl _).trans (by decide)
@[simp] theorem ty_int_dict {i : Int} {m : Mem} : isTys [.dict] (.p (.int i)) m = some false := (ty_of (k := .inr "int") rfl _).trans (by decide)
@[simp] theorem ty_int_lt {i : Int} {m : Mem} : isTys [.list, .tuple] (.p (.int i)) m = some false := (ty_of (k := .inr "int") rfl _).trans (by decide)
@[simp] theorem isN_int {i : Int} : isN (.p (.int i)) = false := Eq.trans rfl rfl
@[simp] theorem ty_str_int {z : Str} {m : Mem} : isTys [.int] (.p (.str z)) m = some false := (ty_of (k := .inr "str") rfl _).trans (by decide)
@[simp] theorem ty_str_bool {z : Str} {m : Mem} : isTys [.bool] (.p (.str z)) m = some false := (ty_of (k := .inr "str") rfl _).trans (by decide)
@[simp] theorem ty_str_str {z : Str} {m : Mem} : isTys [.str] (.p (.str z)) m = some true := (ty_of (k := .inr "str") rfl _).trans (by decide)
@[simp] theorem ty_str_list {z : Str} {m : Mem} : isTys [.list] (.p (.str z)) m = some false := (ty_of (k := .inr "str") rfl _).trans (by decide)
@[simp] theorem ty_str_tuple {z : Str} {m : Mem} : isTys [.tuple] (.p (.str z)) m = some false := (ty_of (k := .inr "str") rfl _).trans (by decide)
@[simp] theorem ty_str_dict {z : Str} {m : Mem} : isTys [.dict] (.p (.str z)) m = some false := (ty_of (k := .inr "str") rfl _).trans (by decide)
@[simp] theorem ty_str_lt {z : Str} {m : Mem} : isTys [.list, .tuple] (.p (.str z)) m = some false := (ty_of (k := .inr "str") rfl _).trans (by decide)
@[simp] theorem isN_str {z : Str} : isN (.p (.str z)) = false := Eq.trans rfl rfl
@[simp] theorem ty_lst_int {l : List P} {m : Mem} : isTys [.int] (.p (.lst l)) m = some false := (ty_of (k := .inr "list") rfl _).trans (by decide)
@[simp] theorem ty_lst_bool {l : List P} {m : Mem} : isTys [.bool] (.p (.lst l)) m = some false := (ty_of (k := .inr "list") rfl _).trans (by decide)
@[simp] theorem ty_lst_str {l : List P} {m : Mem} : isTys [.str] (.p (.lst l)) m = some false := (ty_of (k := .inr "list") rfl _).trans (by decide)
@[simp] theorem ty_lst_list {l : List P} {m : Mem} : isTys [.list] (.p (.lst l)) m = some true := (ty_of (k := .inr "list") rfl _).trans (by decide)
@[simp] theorem ty_lst_tuple {l : List P} {m : Mem} : isTys [.tuple] (.p (.lst l)) m = some false := (ty_of (k := .inr "list") rfl _).trans (by decide)
@[simp] theorem ty_lst_dict {l : List P} {m : Mem} : isTys [.dict] (.p (.lst l)) m = some false := (ty_of (k := .inr "list") rfl _).trans (by decide)
@[simp] theorem ty_lst_lt {l : List P} {m : Mem} : isTys [.list, .tuple] (.p (.lst l)) m = some true := (ty_of (k := .inr "list") rfl _).trans (by decide)
@[simp] theorem isN_lst {l : List P} : isN (.p (.lst l)) = false := Eq.trans rfl rfl
@[simp] theorem ty_tup_int {l : List P} {m : Mem} : isTys [.int] (.p (.tup l)) m = some false := (ty_of (k := .inr "tuple") rfl _).trans (by decide)
@[simp] theorem ty_tup_bool {l : List P} {m : Mem} : isTys [.bool] (.p (.tup l)) m = some false := (ty_of (k := .inr "tuple") rfl _).trans (by decide)
@[simp] theorem ty_tup_str {l : List P} {m : Mem} : isTys [.str] (.p (.tup l)) m = some false := (ty_of (k := .inr "tuple") rfl _).trans (by decide)
@[simp] theorem ty_tup_list {l : List P} {m : Mem} : isTys [.list] (.p (.tup l)) m = some false := (ty_of (k := .inr "tuple") rfl _).trans (by decide)
@[simp] theorem ty_tup_tuple {l : List P} {m : Mem} : isTys [.tuple] (.p (.tup l)) m = some true := (ty_of (k := .inr "tuple") rfl _).trans (by decide)
@[simp] theorem ty_tup_dict {l : List P} {m : Mem} : isTys [.dict] (.p (.tup l)) m = some false := (ty_of (k := .inr "tuple") rfl _).trans (by decide)
@[simp] theorem ty_tup_lt {l : List P} {m : Mem} : isTys [.list, .tuple] (.p (.tup l)) m = some true := (ty_of (k := .inr "tuple") rfl _).trans (by decide)
@[simp] theorem isN_tup {l : List P} : isN (.p (.tup l)) = false := Eq.trans rfl rfl
/-! ### equal data -/
mutual
/-- plain data, no list longer than a line -/
def P.pl : P → Bool
  | .non => true
  | .bl _ => true
  | .int _ => true
  | .str _ => true
  | .tup l => plL l && decide (l.length ≤ 16777216)
  | .lst l => plL l && decide (l.length ≤ 16777216)
  | _ => false
def plL : List P → Bool
  | [] => true
  | x :: l => x.pl && plL l
end
mutual
def P.dep : P → Nat
  | .tup l => depL l + 1
  | .lst l => depL l + 1
  | _ => 0
def depL : List P → Nat
  | [] => 0
  | x :: l => max x.dep (depL l)
end
theorem pl_mem : ∀ {l : List P}, plL l = true → ∀ x ∈ l, x.pl = true ∧ x.dep ≤ depL l
  | [], _, x, h => by cases h
  | y :: l, e, x, h => by
    have e : (y.pl && plL l) = true := e
    rw [Bool.and_eq_true] at e
    have d : depL (y :: l) = max y.dep (depL l) := rfl
    rw [d]
    rcases List.mem_cons.mp h with h | h
    · rw [h]; exact ⟨e.1, Nat.le_max_left _ _⟩
    · obtain ⟨a, b⟩ := pl_mem e.2 x h
      exact ⟨a, Nat.le_trans b (Nat.le_max_right _ _)⟩
theorem zipP_self (l : List P) : zipP l l = l.map fun x => .p (.tup [x, x]) := by
  induction l with
  | nil => rfl
  | cons x l ih => show _ :: zipP l l = _; rw [ih]; rfl
@[simp] theorem asg_2 {i j : Nat} {x y : P} {m : Mem} {δ : Sl} : asgT (.tp (.cons (.nm i) (.cons (.nm j) .nil))) (.p (.tup [x, y])) m δ = some ((δ.set i (some (.p x))).set j (some (.p y))) := Eq.trans rfl rfl
@[simp] theorem zip_l {l r : List P} {m : Mem} : itZip [.p (.lst l), .p (.lst r)] m = some ⟨zipP l r, none⟩ := Eq.trans rfl rfl
@[simp] theorem zip_t {l r : List P} {m : Mem} : itZip [.p (.tup l), .p (.tup r)] m = some ⟨zipP l r, none⟩ := Eq.trans rfl rfl
def SameOk (cl : Cl) (n : Nat) : Prop := ∀ (m : Mem) (x : P), x.pl = true → x.dep < n → cl 5 [.p x, .p x] m = .ok (.p (.bl true)) m
section
variable {cl : Cl} {gv : Gv} {m : Mem}
theorem same_l {l : List P} (h : ∀ x ∈ l, cl 5 [.p x, .p x] m = .ok (.p (.bl true)) m) (hz : l.length ≤ 16777216) {t : Its} (ht : t.n = none) {δ : Sl} (hd : δ.length = 4) :
    (lcRun (turn (denC cl gv .none) (den cl gv (.call 5 (.cons (.var 2) (.cons (.var 3) .nil)))) (.tp (.cons (.nm 2) (.cons (.nm 3) .nil))) δ) t (l.map fun x => .p (.tup [x, x])) m).bind (mkL false) = .ok (.p (.lst ((l.map fun _ => true).map P.bl))) m := by
  rw [lc_map (g := fun _ => .p (.bl true)) ht fun x hx => ?_]
  · have e : (l.map fun _ => D.p (.bl true)) = ((l.map fun _ => true).map P.bl).map D.p := by simp [Function.comp_def]
    rw [e]
    exact mkL_p
  · match δ, hd with
    | [a, b, c, d], _ => simp [turn_, h x hx]
theorem same_1 {x : P} (hx : x.pl = true) (h : ∀ y : P, y.pl = true → y.dep < x.dep → cl 5 [.p y, .p y] m = .ok (.p (.bl true)) m) : runD cl gv D__law_same [.p x, .p x] m = .ok (.p (.bl true)) m := by
  unfold D__law_same
  rw [runD_ok (np := 2) rfl]
  cases x with
  | non => simp [B__law_same_12, B__law_same_11]
  | bl b => simp [B__law_same_12, B__law_same_10, B__law_same_9]
  | int i => simp [B__law_same_12, B__law_same_10, B__law_same_8, B__law_same_2, B__law_same_0]
  | str z => simp [B__law_same_12, B__law_same_10, B__law_same_8, B__law_same_2, B__law_same_0]
  | tup l =>
    have hx' : plL l = true ∧ l.length ≤ 16777216 := by
      have e : (plL l && decide (l.length ≤ 16777216)) = true := hx
      rw [Bool.and_eq_true] at e
      exact ⟨e.1, of_decide_eq_true e.2⟩
    have key := fun (δ : Sl) hd => same_l (cl := cl) (gv := gv) (m := m) (l := l) (δ := δ) (t := ⟨l.map fun x => .p (.tup [x, x]), none⟩) (fun y hy => h y (pl_mem hx'.1 y hy).1 (Nat.lt_succ_of_le (pl_mem hx'.1 y hy).2)) hx'.2 rfl hd
    simp [B__law_same_12, B__law_same_10, B__law_same_8, B__law_same_7, B__law_same_5, B__law_same_3, v_lc, zipP_self, wipeD]
    rw [key _ rfl]
    simp only [R.bind_ok, l_nil, bo_all, all_]
    simp
  | lst l =>
    have hx' : plL l = true ∧ l.length ≤ 16777216 := by
      have e : (plL l && decide (l.length ≤ 16777216)) = true := hx
      rw [Bool.and_eq_true] at e
      exact ⟨e.1, of_decide_eq_true e.2⟩
    have key := fun (δ : Sl) hd => same_l (cl := cl) (gv := gv) (m := m) (l := l) (δ := δ) (t := ⟨l.map fun x => .p (.tup [x, x]), none⟩) (fun y hy => h y (pl_mem hx'.1 y hy).1 (Nat.lt_succ_of_le (pl_mem hx'.1 y hy).2)) hx'.2 rfl hd
    simp [B__law_same_12, B__law_same_10, B__law_same_8, B__law_same_7, B__law_same_5, B__law_same_3, v_lc, zipP_self, wipeD]
    rw [key _ rfl]
    simp only [R.bind_ok, l_nil, bo_all, all_]
    simp
  | _ => cases hx
end
theorem same_ok {p : Pg} (hf : p.fd 5 = some D__law_same) : ∀ n k : Nat, SameOk (callAt p (n + k)) n
  | 0, k => fun m x _ h => absurd h (Nat.not_lt_zero _)
  | n + 1, k => fun m x hx hd => by
    have : n + 1 + k = (n + k) + 1 := by omega
    rw [this, callAt_ok hf]
    exact same_1 hx fun y hy hd2 => same_ok hf n k m y hy (by omega)
end Dn
end

/-! Dn, part X: names and numbers. -/
noncomputable section
namespace Dn
open PySem PySem.Spec PyProof.Rows L2
theorem in_sgn {c : Nat} {l : List Nat} {m : Mem} : cmpS .inn (.p (.str (mk [c]))) (.p (.str (mk l))) m = .ok (.p (.bl (decide (c ∈ l)))) m := Eq.trans rfl rfl
theorem it_mk {l : List Nat} {m : Mem} : itSeq (.p (.str (mk l))) m = some ⟨l.map fun c => .p (.str (mk [c])), none⟩ := Eq.trans rfl rfl
@[simp] theorem its_lst {l : List P} {m : Mem} : itSeq (.p (.lst l)) m = some ⟨l.map D.p, none⟩ := Eq.trans rfl rfl
@[simp] theorem its_tup {l : List P} {m : Mem} : itSeq (.p (.tup l)) m = some ⟨l.map D.p, none⟩ := Eq.trans rfl rfl
/-- is it a name -/
def nmL (l : List Nat) : Bool := decide (1 ≤ l.length) && decide (l.length ≤ 6) && l.all fun c => decide (c ∈ alpha)
def nmP : P → Bool
  | .str z => nmL z.cps.toList
  | _ => false
theorem nmL_ok {l : List Nat} (h : IsNm l) : nmL l = true := by
  unfold nmL
  rw [Bool.and_eq_true, Bool.and_eq_true]
  refine ⟨⟨decide_eq_true h.1, decide_eq_true h.2.1⟩, List.all_eq_true.mpr fun c hc => decide_eq_true (alpha_mem.mpr (h.2.2 c hc))⟩
theorem nmL_bad {l : List Nat} {c : Nat} (hc : c ∈ l) (h : ¬ (97 ≤ c ∧ c ≤ 122)) : nmL l = false := by
  unfold nmL
  rw [Bool.and_eq_false_iff]
  right
  rw [List.all_eq_false]
  exact ⟨c, hc, by simpa using fun z => h (alpha_mem.mp z)⟩
theorem nmL_long {l : List Nat} (h : 6 < l.length) : nmL l = false := by
  unfold nmL
  rw [decide_eq_false (by omega : ¬ l.length ≤ 6)]
  simp
/-- what a test of one value may be asked -/
def P.ask : P → Bool
  | .non => true
  | .bl _ => true
  | .int _ => true
  | .str z => decide (z.length ≤ 16777216)
  | .tup _ => true
  | .lst _ => true
  | _ => false
section
variable {cl : Cl} {gv : Gv} {m : Mem}
theorem is_name_1 (g0 : gv.c 0 = .str (mk alpha)) (g1 : gv.c 1 = .int 6) {x : P} (hx : x.ask = true) : runD cl gv D_is_name [.p x] m = .ok (.p (.bl (nmP x))) m := by
  unfold D_is_name
  rw [runD_ok (np := 1) rfl]
  cases x with
  | non => simp [B_is_name_2, B_is_name_1, nmP]
  | bl b => simp [B_is_name_2, B_is_name_1, nmP]
  | int i => simp [B_is_name_2, B_is_name_1, nmP]
  | tup l => simp [B_is_name_2, B_is_name_1, nmP]
  | lst l => simp [B_is_name_2, B_is_name_1, nmP]
  | str z =>
    have hz : z.cps.toList.length ≤ 16777216 := of_decide_eq_true hx
    show trimR m (endS (denB cl gv B_is_name_2 (startD 2 [.p (.str z)]) m)) = .ok (.p (.bl (nmL z.cps.toList))) m
    rw [mk_of z]
    generalize z.cps.toList = l at *
    rw [mk_list]
    by_cases c1 : 1 ≤ l.length
    · by_cases c2 : l.length ≤ 6
      · have c1' : (1 : Int) ≤ (l.length : Int) := by omega
        have c2' : (l.length : Int) ≤ 6 := by omega
        simp [B_is_name_2, g1, c1', c2', B_is_name_0, v_lc, it_mk]
        rw [lc_map (g := fun c => .p (.bl (decide (c ∈ alpha)))) rfl fun c hc => by simp [turn_, wipeD, g0, in_sgn]]
        have e : (l.map fun c => D.p (.bl (decide (c ∈ alpha)))) = ((l.map fun c => decide (c ∈ alpha)).map P.bl).map D.p := by simp [Function.comp_def]
        simp only [R.bind_ok, e]
        rw [mkL_p]
        simp only [R.bind_ok, l_nil, bo_all, all_]
        simp [nmL, c1, c2, List.all_map, Function.comp_def]
      · have c2' : ¬ (l.length : Int) ≤ 6 := by omega
        have c1' : (1 : Int) ≤ (l.length : Int) := by omega
        simp [B_is_name_2, g1, c1', c2', B_is_name_1, nmL, c2]
    · have c1' : ¬ (1 : Int) ≤ (l.length : Int) := by omega
      simp [B_is_name_2, g1, c1', B_is_name_1, nmL, c1]
  | _ => cases hx
def nuP : P → Bool
  | .int _ => true
  | _ => false
theorem is_number_1 {x : P} (hx : x.ask = true) : runD cl gv D_is_number [.p x] m = .ok (.p (.bl (nuP x))) m := by
  unfold D_is_number
  rw [runD_ok (np := 1) rfl]
  cases x with
  | non => simp [B_is_number_0, nuP]
  | bl b => simp [B_is_number_0, nuP]
  | int i => simp [B_is_number_0, nuP]
  | tup l => simp [B_is_number_0, nuP]
  | lst l => simp [B_is_number_0, nuP]
  | str z => simp [B_is_number_0, nuP]
  | _ => cases hx
end
def NameOk (cl : Cl) : Prop := ∀ (m : Mem) (x : P), x.ask = true → cl 1 [.p x] m = .ok (.p (.bl (nmP x))) m
def NumOk (cl : Cl) : Prop := ∀ (m : Mem) (x : P), x.ask = true → cl 0 [.p x] m = .ok (.p (.bl (nuP x))) m
theorem name_ok {p : Pg} {k : Nat} (hf : p.fd 1 = some D_is_name) (g0 : p.gv.c 0 = .str (mk alpha)) (g1 : p.gv.c 1 = .int 6) : NameOk (callAt p (k + 1)) := fun m x hx => by
  rw [callAt_ok hf]
  exact is_name_1 g0 g1 hx
theorem num_ok {p : Pg} {k : Nat} (hf : p.fd 0 = some D_is_number) : NumOk (callAt p (k + 1)) := fun m x hx => by
  rw [callAt_ok hf]
  exact is_number_1 hx
end Dn
end

/-! Dn, part WA: a function's own lists; loops. -/
noncomputable section
namespace Dn
open PySem PySem.Spec PyProof.Rows L2
/-- a list of pure data, in the store -/
def Lp (l : List P) : MO := .lst (l.map D.p)
theorem Lp_nil : MO.lst [] = Lp [] := rfl
theorem Lp_map (l : List P) : MO.lst (l.map D.p) = Lp l := rfl
theorem Lp_flat (l : List P) : (Lp l).flat = true := by
  show (l.map D.p).all D.flat = true
  rw [List.all_map, List.all_eq_true]
  intro x _
  rfl
/-! ### behind any store -/
section
variable {m l : Mem} {o u : MO} {x : P} {d : D}
theorem ap_new : Mem.new m o = m ++ [some o] := rfl
@[simp] theorem ap_geta : Mem.get (m ++ [some o]) m.length = some o := by unfold Mem.get; simp
@[simp] theorem ap_puta : Mem.put (m ++ [some o]) m.length u = m ++ [some u] := by unfold Mem.put; simp
@[simp] theorem ap_killa : Mem.kill (m ++ [some o]) m.length = m ++ [none] := by unfold Mem.kill; simp
theorem bg_app {b : Bag} : Bg b m ++ l = Bg b (m ++ l) := rfl
theorem ap_tame (h : u.flat = true) : Tame (m ++ [some o]) (m ++ some u :: l) := by
  refine ⟨by simp, fun n h' => ?_⟩
  rw [List.length_append, List.length_singleton] at h'
  by_cases c : n < m.length
  · left
    rw [List.getElem?_append_left c, List.getElem?_append_left c]
  · have : n = m.length := by omega
    subst this
    right
    exact ⟨some u, by simp, fun q e => by cases e; exact h⟩
theorem trimU_apu (h : u.flat = true) : trimU (m ++ [some o]) (.ok d (m ++ [some u])) = .ok (.p .non) (m ++ [some u]) := by
  rw [trimU_tame (ap_tame h)]
  congr 1
  rw [List.take_of_length_le (by simp)]
theorem trimU_apl (h : u.flat = true) : trimU (m ++ [some o]) (.ok d (m ++ some u :: l)) = .ok (.p .non) (m ++ [some u]) := by
  rw [trimU_tame (ap_tame h)]
  congr 1
  have : m ++ some u :: l = (m ++ [some u]) ++ l := by simp
  rw [this, List.take_left' (by simp)]
theorem trim_apk : trimR (m ++ [some o]) (.ok (.p x) (m ++ [none])) = .ok (.p x) (m ++ [none]) := by
  have t : Tame (m ++ [some o]) (m ++ [none]) := by
    refine ⟨by simp, fun n h' => ?_⟩
    rw [List.length_append, List.length_singleton] at h'
    by_cases c : n < m.length
    · left
      rw [List.getElem?_append_left c, List.getElem?_append_left c]
    · have : n = m.length := by omega
      subst this
      right
      exact ⟨none, by simp, fun q e => by cases e⟩
  rw [trim_tame t, List.take_of_length_le (by simp)]
end
/-! ### what a list of pure data answers -/
section
variable {m : Mem} {r : Nat} {l : List P} {x : P}
theorem lp_pre (h : m.get r = some (Lp l)) (f : BM) : bmPre f (.ref r) m = bmL f := by
  unfold bmPre
  simp only [h, Lp]
theorem lp_append (h : m.get r = some (Lp l)) (hl : l.length < 16777216) : bmtS .append (.ref r) [.p x] m = .ok (.p .non) (m.put r (Lp (l ++ [x]))) := by
  show appendS (.ref r) [.p x] m = _
  unfold appendS
  simp only [h, Lp]
  rw [if_pos (by rw [PySem.sizeLine_eq, List.length_map]; exact hl), List.map_append]
  rfl
theorem lp_extend (h : m.get r = some (Lp l)) {ys : List P} (hl : l.length + ys.length ≤ 16777216) : bmtS .extend (.ref r) [.p (.lst ys)] m = .ok (.p .non) (m.put r (Lp (l ++ ys))) := by
  show extendS (.ref r) [.p (.lst ys)] m = _
  unfold extendS
  simp only [h, Lp]
  have e : isLst (.p (.lst ys)) = true := rfl
  have e2 : seqD m (.p (.lst ys)) = some (ys.map D.p) := rfl
  rw [if_pos e]
  simp only [e2]
  rw [if_pos (by rw [PySem.sizeLine_eq, List.length_map, List.length_map]; exact hl), List.map_append]
theorem lp_insert (h : m.get r = some (Lp l)) {k : Nat} (hl : l.length < 16777216) (hk : k ≤ l.length) : bmtS .insert (.ref r) [.p (.int (k : Int)), .p x] m = .ok (.p .non) (m.put r (Lp (l.take k ++ [x] ++ l.drop k))) := by
  show insertS (.ref r) [.p (.int (k : Int)), .p x] m = _
  unfold insertS
  simp only [h, Lp]
  rw [if_pos ⟨by rw [PySem.sizeLine_eq, List.length_map]; exact hl, by omega, by omega⟩]
  simp
theorem lp_reverse (h : m.get r = some (Lp l)) : bmtS .reverse (.ref r) [] m = .ok (.p .non) (m.put r (Lp l.reverse)) := by
  show reverseS (.ref r) [] m = _
  unfold reverseS
  simp only [h, Lp, List.map_reverse]
theorem frzL_p {k : Nat} : ∀ l : List P, frzL (frzN k) (l.map D.p) m = some (l, m)
  | [] => rfl
  | x :: l => by
    rw [List.map_cons]
    unfold frzL
    have : frzN k (.p x) m = some (x, m) := by cases k <;> rfl
    rw [this]
    simp only [frzL_p l]
theorem lp_frz (h : m.get r = some (Lp l)) : frzS (.ref r) m = .ok (.p (.lst l)) (m.kill r) := by
  unfold frzS frzN
  simp [h, Lp, frzL_p]
theorem lp_len (h : m.get r = some (Lp l)) : bclS .len [.ref r] m = .ok (.p (.int (l.length : Int))) m := by
  show lenS (.ref r) m = _
  unfold lenS seqD
  simp only [h, Lp, List.length_map]
theorem lp_cls (h : m.get r = some (Lp l)) : clsS (.ref r) m = none := by
  unfold clsS
  simp only [h, Lp]
theorem lp_ix (h : m.get r = some (Lp l)) {k : Nat} (e : l[k]? = some x) : ixS (.ref r) (.p (.int (k : Int))) m = .ok (.p x) m := by
  unfold ixS seqD
  simp only [h, Lp]
  rw [atI_nat (v := D.p x) (by rw [List.getElem?_map, e]; rfl)]
theorem lp_iset (h : m.get r = some (Lp l)) {k : Nat} (hk : k < l.length) : isetS (.ref r) (.p (.int (k : Int))) (.p x) m = .ok () (m.put r (Lp (l.set k x))) := by
  unfold isetS
  simp only [h, Lp]
  have : ixN (l.map D.p).length (k : Int) = some k := by unfold ixN; simp [hk]
  rw [this]
  simp only [List.map_set]
end
/-! ### .. at the store's end -/
section
variable {m : Mem} {b b' : Bag} {l l' : List P} {x : P} {d : D}
@[simp] theorem a_pre {f : BM} : bmPre f (.ref m.length) (m ++ [some (Lp l)]) = bmL f := lp_pre ap_geta f
@[simp] theorem g_pre {f : BM} : bmPre f (.ref (m.length + 1)) (Bg b (m ++ [some (Lp l)])) = bmL f := lp_pre bg_geta f
theorem a_append (hl : l.length < 16777216) : bmtS .append (.ref m.length) [.p x] (m ++ [some (Lp l)]) = .ok (.p .non) (m ++ [some (Lp (l ++ [x]))]) := by rw [lp_append ap_geta hl, ap_puta]
theorem g_append (hl : l.length < 16777216) : bmtS .append (.ref (m.length + 1)) [.p x] (Bg b (m ++ [some (Lp l)])) = .ok (.p .non) (Bg b (m ++ [some (Lp (l ++ [x]))])) := by rw [lp_append bg_geta hl, bg_puta]
theorem a_extend {ys : List P} (hl : l.length + ys.length ≤ 16777216) : bmtS .extend (.ref m.length) [.p (.lst ys)] (m ++ [some (Lp l)]) = .ok (.p .non) (m ++ [some (Lp (l ++ ys))]) := by rw [lp_extend ap_geta hl, ap_puta]
theorem g_insert {k : Nat} (hl : l.length < 16777216) (hk : k ≤ l.length) : bmtS .insert (.ref (m.length + 1)) [.p (.int (k : Int)), .p x] (Bg b (m ++ [some (Lp l)])) = .ok (.p .non) (Bg b (m ++ [some (Lp (l.take k ++ [x] ++ l.drop k))])) := by rw [lp_insert bg_geta hl hk, bg_puta]
@[simp] theorem a_frz : frzS (.ref m.length) (m ++ [some (Lp l)]) = .ok (.p (.lst l)) (m ++ [none]) := by rw [lp_frz ap_geta, ap_killa]
@[simp] theorem g_frz : frzS (.ref (m.length + 1)) (Bg b (m ++ [some (Lp l)])) = .ok (.p (.lst l)) (Bg b (m ++ [none])) := by rw [lp_frz bg_geta, bg_killa]
@[simp] theorem a_len : bclS .len [.ref m.length] (m ++ [some (Lp l)]) = .ok (.p (.int (l.length : Int))) (m ++ [some (Lp l)]) := lp_len ap_geta
@[simp] theorem g_len : bclS .len [.ref (m.length + 1)] (Bg b (m ++ [some (Lp l)])) = .ok (.p (.int (l.length : Int))) (Bg b (m ++ [some (Lp l)])) := lp_len bg_geta
@[simp] theorem a_cls : clsS (.ref m.length) (m ++ [some (Lp l)]) = none := lp_cls ap_geta
@[simp] theorem g_cls : clsS (.ref (m.length + 1)) (Bg b (m ++ [some (Lp l)])) = none := lp_cls bg_geta
@[simp] theorem a_trimU : trimU (m ++ [some (Lp l)]) (.ok d (m ++ [some (Lp l')])) = .ok (.p .non) (m ++ [some (Lp l')]) := trimU_apu (Lp_flat _)
@[simp] theorem g_trimU : trimU (Bg b (m ++ [some (Lp l)])) (.ok d (Bg b' (m ++ [some (Lp l')]))) = .ok (.p .non) (Bg b' (m ++ [some (Lp l')])) := trimU_bgu (Lp_flat _)
@[simp] theorem a_trimK : trimR (m ++ [some (Lp l)]) (.ok (.p x) (m ++ [none])) = .ok (.p x) (m ++ [none]) := trim_apk
@[simp] theorem g_trimK : trimR (Bg b (m ++ [some (Lp l)])) (.ok (.p x) (Bg b (m ++ [none]))) = .ok (.p x) (Bg b (m ++ [none])) := trim_apk (m := Bg b m)
@[simp] theorem a_trim1 {o : Option MO} : trimR m (.ok (.p x) (m ++ [o])) = .ok (.p x) m := trim_app
end
/-! ### loops -/
theorem for_inv {α : Type} {f : D → Sl → Mem → S} {t : Its} {h : α → D} {I : List α → Sl → Mem → Prop} (hh : ∀ s δ m, I s δ m → t.held m) : ∀ {l pre : List α} {δ : Sl} {m : Mem}, (∀ p x post, pre ++ l = p ++ x :: post → ∀ δ m, I p δ m → ∃ δ' m', f (h x) δ m = .ok .nx δ' m' ∧ I (p ++ [x]) δ' m') → I pre δ m → ∃ δ' m', forRun f t (l.map h) δ m = .ok .nx δ' m' ∧ I (pre ++ l) δ' m'
  | [], pre, δ, m, _, i => by
    refine ⟨δ, m, ?_, by rwa [List.append_nil]⟩
    rw [List.map_nil]
    unfold forRun
    rw [if_pos (hh pre δ m i)]
  | x :: l, pre, δ, m, st, i => by
    obtain ⟨δ1, m1, e1, i1⟩ := st pre x l rfl δ m i
    obtain ⟨δ2, m2, e2, i2⟩ := for_inv hh (l := l) (pre := pre ++ [x]) (fun p y post e => st p y post (by rw [← e]; simp)) i1
    refine ⟨δ2, m2, ?_, by rwa [List.append_assoc] at i2⟩
    rw [List.map_cons]
    unfold forRun
    rw [if_pos (hh pre δ m i), e1]
    exact e2
def S.nx (Q : Sl → Mem → Prop) : S → Prop
  | .ok .nx δ m => Q δ m
  | _ => False
@[simp] theorem nx_ {Q : Sl → Mem → Prop} {δ : Sl} {m : Mem} : S.nx Q (.ok .nx δ m) = Q δ m := rfl
theorem nx_ex {Q : Sl → Mem → Prop} {z : S} (h : z.nx Q) : ∃ δ m, z = .ok .nx δ m ∧ Q δ m := by
  cases z with
  | ok f δ m => cases f with
    | nx => exact ⟨δ, m, rfl, h⟩
    | _ => exact h.elim
  | _ => exact h.elim
def fbody (cl : Cl) (gv : Gv) (tg : T) (b : RB) (x : D) (δ : Sl) (m : Mem) : S := match asgT tg x m δ with | some δ' => denB cl gv b δ' m | none => .no
theorem s_forb {cl : Cl} {gv : Gv} {tg : T} {it : RI} {b : RB} {δ : Sl} {m : Mem} : denS cl gv (.forr tg it b) δ m = (denI cl gv it δ m).toS δ fun its m => forRun (fbody cl gv tg b) its its.l δ m := Eq.trans rfl rfl
theorem fb_ {cl : Cl} {gv : Gv} {tg : T} {b : RB} {x : D} {δ δ' : Sl} {m : Mem} (h : asgT tg x m δ = some δ') : fbody cl gv tg b x δ m = denB cl gv b δ' m := by
  unfold fbody
  rw [h]
@[simp] theorem fb_nm {cl : Cl} {gv : Gv} {i : Nat} {b : RB} {x : D} {δ : Sl} {m : Mem} : fbody cl gv (.nm i) b x δ m = denB cl gv b (δ.set i (some x)) m := rfl
/-- .. as a step of a body -/
theorem for_k {α : Type} {K : S → Prop} {cl : Cl} {gv : Gv} {tg : T} {it : RI} {b rest : RB} {t : Its} {h : α → D} (I : List α → Sl → Mem → Prop) {l : List α} {δ : Sl} {m m1 : Mem}
    (hi : denI cl gv it δ m = .ok t m1) (hl : t.l = l.map h) (i : I [] δ m1) (hh : ∀ s δ m, I s δ m → t.held m)
    (st : ∀ pre x post, l = pre ++ x :: post → ∀ δ m, I pre δ m → S.nx (I (pre ++ [x])) (fbody cl gv tg b (h x) δ m))
    (fin : ∀ δ' m', I l δ' m' → K (denB cl gv rest δ' m')) : K (denB cl gv (.cons (.forr tg it b) rest) δ m) := by
  obtain ⟨δ', m', e, i'⟩ := for_inv (f := fbody cl gv tg b) (l := l) (pre := []) hh (fun p x post e δ m q => nx_ex (st p x post e δ m q)) i
  rw [b_cons', s_forb, hi, toS_ok, hl, e]
  exact fin δ' m' i'
/-- .. over what the store does not hold -/
theorem for_p {α : Type} {K : S → Prop} {cl : Cl} {gv : Gv} {tg : T} {it : RI} {b rest : RB} (h : α → D) (l : List α) (I : List α → Sl → Mem → Prop) {δ : Sl} {m : Mem}
    (hi : denI cl gv it δ m = .ok ⟨l.map h, none⟩ m) (i : I [] δ m)
    (st : ∀ pre x post, l = pre ++ x :: post → ∀ δ m, I pre δ m → S.nx (I (pre ++ [x])) (fbody cl gv tg b (h x) δ m))
    (fin : ∀ δ' m', I l δ' m' → K (denB cl gv rest δ' m')) : K (denB cl gv (.cons (.forr tg it b) rest) δ m) := for_k I hi rfl i (fun _ _ _ _ => trivial) st fin
theorem mapB_snoc {α β : Type} {F : α → Bag → β × Bag} {x : α} : ∀ {l : List α} {b : Bag}, mapB F (l ++ [x]) b = ((mapB F l b).1 ++ [(F x (mapB F l b).2).1], (F x (mapB F l b).2).2)
  | [], b => rfl
  | y :: l, b => by
    rw [List.cons_append]
    show (_ :: (mapB F (l ++ [x]) _).1, (mapB F (l ++ [x]) _).2) = _
    rw [mapB_snoc]
    rfl
end Dn
end

/-! Dn, part XP: plain data that is the same. -/
noncomputable section
namespace Dn
open PySem PySem.Spec PyProof.Rows L2
/-! ### _law_same on it -/
structure Pl (n : Nat) (x : P) : Prop where
  p : x.pl = true
  d : x.dep ≤ n
theorem plL_of {n : Nat} : ∀ {l : List P}, (∀ x ∈ l, Pl n x) → plL l = true ∧ depL l ≤ n
  | [], _ => ⟨rfl, Nat.zero_le _⟩
  | x :: l, h => by
    obtain ⟨a, b⟩ := plL_of fun y hy => h y (List.mem_cons_of_mem _ hy)
    obtain ⟨a', b'⟩ := h x List.mem_cons_self
    refine ⟨?_, ?_⟩
    · show (x.pl && plL l) = true
      rw [a, a']; rfl
    · show max x.dep (depL l) ≤ n
      omega
theorem pl_lst {n : Nat} {l : List P} (h : ∀ x ∈ l, Pl n x) (hl : l.length ≤ 16777216) : Pl (n + 1) (.lst l) := by
  obtain ⟨a, b⟩ := plL_of h
  exact ⟨by show (plL l && decide (l.length ≤ 16777216)) = true; rw [a, decide_eq_true hl]; rfl, by show depL l + 1 ≤ n + 1; omega⟩
theorem pl_tup {n : Nat} {l : List P} (h : ∀ x ∈ l, Pl n x) (hl : l.length ≤ 16777216) : Pl (n + 1) (.tup l) := by
  obtain ⟨a, b⟩ := plL_of h
  exact ⟨by show (plL l && decide (l.length ≤ 16777216)) = true; rw [a, decide_eq_true hl]; rfl, by show depL l + 1 ≤ n + 1; omega⟩
theorem Pl.up {n k : Nat} {x : P} (h : Pl n x) (hk : n ≤ k) : Pl k x := ⟨h.p, Nat.le_trans h.d hk⟩
theorem pl_str {z : Str} : Pl 0 (.str z) := ⟨rfl, Nat.le_refl _⟩
theorem pl_int {i : Int} : Pl 0 (.int i) := ⟨rfl, Nat.le_refl _⟩
theorem pl_bl {i : Bool} : Pl 0 (.bl i) := ⟨rfl, Nat.le_refl _⟩
theorem SameOk.use {cl : Cl} {n k : Nat} (H : SameOk cl n) {m : Mem} {x : P} (h : Pl k x) (hk : k < n) : cl 5 [.p x, .p x] m = .ok (.p (.bl true)) m := H m x h.p (Nat.lt_of_le_of_lt h.d hk)
end Dn
end

noncomputable section
namespace Law
open Dn PySem PySem.Spec PyProof.Rows L2
instance : Inhabited Dn.P := ⟨.non⟩
abbrev G1 : Gv := pg.gv
def cds : List P := [.str "InvalidName", .str "InvalidSignature", .str "InvalidTable", .str "InvalidRule", .str "InvalidText", .str "InvalidThing", .str "InvalidNumber", .str "InvalidWord", .str "InvalidLimit", .str "InvalidCommand", .str "DuplicateName", .str "Unlike", .str "TooGreat", .str "TooLong", .str "CapacityExceeded", .str "UnknownName", .str "NothingLeft"]
def exs (x : P) : List P := [.exn 18 [(17, x), (15, .str "InvalidName")], .exn 17 [(21, x), (15, .str "InvalidSignature")], .exn 16 [(21, x), (15, .str "InvalidTable")], .exn 15 [(21, x), (15, .str "InvalidRule")], .exn 14 [(19, x), (15, .str "InvalidText")], .exn 13 [(17, x), (15, .str "InvalidThing")], .exn 12 [(17, x), (15, .str "InvalidNumber")], .exn 11 [(17, x), (15, .str "InvalidWord")], .exn 10 [(17, x), (15, .str "InvalidLimit")], .exn 9 [(18, x), (15, .str "InvalidCommand")], .exn 8 [(17, x), (15, .str "DuplicateName")], .exn 7 [(15, .str "Unlike")], .exn 6 [(20, x), (15, .str "TooGreat")], .exn 5 [(20, x), (15, .str "TooLong")], .exn 4 [(16, x), (15, .str "CapacityExceeded")], .exn 3 [(17, x), (15, .str "UnknownName")], .exn 2 [(15, .str "NothingLeft")]]
theorem same4 {j : Nat} : SameOk (callAt pg (j + 6)) 4 := by
  have := same_ok (p := pg) rfl 4 (j + 2)
  have e : 4 + (j + 2) = j + 6 := by omega
  rwa [e] at this
def lcK : RE := .lc false (.cmp .eq (.var 9) (.var 3)) (.nm 9) (.rng (.cst (.int 17))) .none [9]
section
variable {cl : Dn.Cl} {gv : Gv} {m : Mem} {x : P}
theorem v_exn {c : Nat} {l : RL} {δ : Sl} : den cl gv (.exn c l) δ m = (denL cl gv l δ m).bind fun xs m => excS gv c xs m := Eq.trans rfl rfl
@[simp] theorem v_xfld {a : RE} {f : Nat} {δ : Sl} : den cl gv (.xfld a f) δ m = (den cl gv a δ m).bind fun x m => xfS gv f x m := Eq.trans rfl rfl
theorem codes_1 : runD cl G1 D__law_codes [] m = .ok (.p (.lst cds)) m := by
  have e : denB cl G1 B__law_codes_0 [] m = .ok (.rt (.p (.lst cds))) [] m := by kernel_rfl
  unfold D__law_codes
  rw [runD_ok (np := 0) rfl]
  show trimR m (endS (denB cl G1 B__law_codes_0 [] m)) = _
  rw [e]
  exact trim_self
theorem errs_1 : runD cl G1 D__law_errors [.p x] m = .ok (.p (.lst (exs x))) m := by
  have e : denB cl G1 B__law_errors_4 [some (.p x), none] m = .ok (.rt (.p (.lst (exs x)))) [some (.p x), some (.p (.lst ((exs x).take 15)))] m := by kernel_rfl
  unfold D__law_errors
  rw [runD_ok (np := 1) rfl]
  show trimR m (endS (denB cl G1 B__law_errors_4 [some (.p x), none] m)) = _
  rw [e]
  exact trim_self
theorem fld_1 {e fd : P} (h : denB cl G1 B__law_field_10 [some (.p e)] m = .ok (.rt (.p fd)) [some (.p e)] m) : runD cl G1 D__law_field [.p e] m = .ok (.p fd) m := by
  unfold D__law_field
  rw [runD_ok (np := 1) rfl]
  show trimR m (endS (denB cl G1 B__law_field_10 [some (.p e)] m)) = _
  rw [h]
  exact trim_self
theorem srt_1 {e y bs : P} (h : denB cl G1 B__law_sorts_1 [some (.p e), none] m = .ok (.rt (.p bs)) [some (.p e), some (.p y)] m) : runD cl G1 D__law_sorts [.p e] m = .ok (.p bs) m := by
  unfold D__law_sorts
  rw [runD_ok (np := 1) rfl]
  show trimR m (endS (denB cl G1 B__law_sorts_1 [some (.p e), none] m)) = _
  rw [h]
  exact trim_self
theorem lc_k {ki : Int} {bs : List P} (hb : ((List.range 17).map fun (j : Nat) => P.bl (decide ((j : Int) = ki))) = bs) {d0 d1 d2 d4 d5 d6 d7 d8 d9 : Option D} : den cl gv lcK [d0, d1, d2, some (.p (.int ki)), d4, d5, d6, d7, d8, d9] m = .ok (.p (.lst bs)) m := by
  subst hb
  unfold lcK
  rw [v_lc]
  have e : denI cl gv (.rng (.cst (.int 17))) [d0, d1, d2, some (.p (.int ki)), d4, d5, d6, d7, d8, d9] m = .ok ⟨(List.range 17).map fun (k : Nat) => D.p (.int (k : Int)), none⟩ m := by kernel_rfl
  rw [e]
  rw [R.bind_ok]
  dsimp only
  rw [lc_map (h := fun k : Nat => D.p (.int (k : Int))) (g := fun k : Nat => D.p (.bl (decide ((k : Int) = ki)))) rfl fun x hx => by simp [turn_, wipeD]]
  rw [show ((List.range 17).map fun k : Nat => D.p (.bl (decide ((k : Int) = ki)))) = (((List.range 17).map fun k : Nat => P.bl (decide ((k : Int) = ki))).map D.p) by rw [List.map_map]; rfl]
  rw [R.bind_ok]
  exact mkL_p
theorem turn_1 {e fd w : P} {z : Str} {ki : Int} {bare : Bool} {es bs : List P} {x0 x1 y6 y7 y8 y9 : Option D}
    (h1 : ixS (.p (.lst es)) (.p (.int ki)) m = .ok (.p e) m)
    (h2 : ixS (.p (.lst cds)) (.p (.int ki)) m = .ok (.p (.str z)) m)
    (h3 : cmpS .inn (.p (.str z)) (.p (.tup [.str "Unlike", .str "NothingLeft"])) m = .ok (.p (.bl bare)) m)
    (h4 : xfS gv 15 (.p e) m = .ok (.p (.str z)) m)
    (h5 : cl 102 [.p e] m = .ok (.p fd) m)
    (hfd : (if bare then P.tup [] else P.tup [x]) = fd)
    (h6 : cl 5 [.p (.lst [.str z, fd]), .p (.lst [.str z, fd])] m = .ok (.p (.bl true)) m)
    (h7 : cl 101 [.p e] m = .ok (.p (.lst bs)) m)
    (h8 : den cl gv lcK [x0, x1, some (.p x), some (.p (.int ki)), some (.p (.lst cds)), some (.p (.lst es)), some (.p e), some (.p (.bl bare)), y8, y9] m = .ok (.p (.lst bs)) m)
    (h9 : cmpS .ne (.p (.lst bs)) (.p (.lst bs)) m = .ok (.p (.bl false)) m)
    (h10 : denB cl gv B_law_v3_3 [x0, x1, some (.p x), some (.p (.int ki)), some (.p (.lst cds)), some (.p (.lst es)), some (.p e), some (.p (.bl bare)), y8, y9] m = .ok .nx [x0, x1, some (.p x), some (.p (.int ki)), some (.p (.lst cds)), some (.p (.lst es)), some (.p e), some (.p (.bl bare)), some (.p w), y9] m) :
    denB cl gv B_law_v3_9 [x0, x1, some (.p x), some (.p (.int ki)), some (.p (.lst cds)), some (.p (.lst es)), y6, y7, y8, y9] m = .ok .nx [x0, x1, some (.p x), some (.p (.int ki)), some (.p (.lst cds)), some (.p (.lst es)), some (.p e), some (.p (.bl bare)), some (.p w), y9] m := by
  have lt : ∀ a b : P, mkL false [.p a, .p b] m = .ok (.p (.lst [a, b])) m := fun a b => mkL_p (l := [a, b])
  have t0 : mkT [] m = .ok (.p (.tup [])) m := mkT_ rfl
  have t1 : mkT [.p x] m = .ok (.p (.tup [x])) m := mkT_ rfl
  have t2 : mkT [.p (.str "Unlike"), .p (.str "NothingLeft")] m = .ok (.p (.tup [.str "Unlike", .str "NothingLeft"])) m := mkT_ rfl
  subst hfd
  simp [B_law_v3_9, h1]
  simp [B_law_v3_8, h2, t2, h3]
  cases bare with
  | true =>
    simp at h5 h6 h8 h10
    simp [B_law_v3_7, h4, h5, h2, t0, lt, h6]
    have h8' := h8
    unfold lcK at h8'
    simp [B_law_v3_5, h7, h8', h9]
    exact h10
  | false =>
    simp at h5 h6 h8 h10
    simp [B_law_v3_7, h4, h5, h2, t1, lt, h6]
    have h8' := h8
    unfold lcK at h8'
    simp [B_law_v3_5, h7, h8', h9]
    exact h10
end
theorem turn0 {j : Nat} {m : Mem} {x : P} (hx : Pl 1 x) {x0 x1 y6 y7 y8 y9 : Option D} : ∃ w6 w7 w8, denB (callAt pg (j + 6)) G1 B_law_v3_9 [x0, x1, some (.p x), some (.p (.int 0)), some (.p (.lst cds)), some (.p (.lst (exs x))), y6, y7, y8, y9] m = .ok .nx [x0, x1, some (.p x), some (.p (.int 0)), some (.p (.lst cds)), some (.p (.lst (exs x))), w6, w7, w8, y9] m :=
  ⟨_, _, _, turn_1 (e := (.exn 18 [(17, x), (15, .str "InvalidName")])) (fd := (.tup [x])) (z := "InvalidName") (bare := false) (es := exs x) (bs := [.bl true, .bl false, .bl false, .bl false, .bl false, .bl false, .bl false, .bl false, .bl false, .bl false, .bl false, .bl false, .bl false, .bl false, .bl false, .bl false, .bl false]) (w := .lst [.bl true, .bl true, .bl false, .bl false, .bl false]) (by kernel_rfl) (by kernel_rfl) (by kernel_rfl) (by kernel_rfl)
    ((callAt_ok rfl).trans (fld_1 (by kernel_rfl))) rfl (same4.use (k := 3) (pl_lst (n := 2) (fun y hy => by
      simp at hy
      rcases hy with rfl | rfl
      · exact pl_str.up (by decide)
      · exact pl_tup (n := 1) (by intro y hy; rw [List.mem_singleton.mp hy]; exact hx) (by simp)) (by simp)) (by decide))
    ((callAt_ok rfl).trans (srt_1 (y := .lst [.bl true, .bl false, .bl false, .bl false, .bl false, .bl false, .bl false, .bl false, .bl false]) (by kernel_rfl))) (lc_k (by kernel_rfl)) (by kernel_rfl) (by kernel_rfl)⟩
theorem turn1 {j : Nat} {m : Mem} {x : P} (hx : Pl 1 x) {x0 x1 y6 y7 y8 y9 : Option D} : ∃ w6 w7 w8, denB (callAt pg (j + 6)) G1 B_law_v3_9 [x0, x1, some (.p x), some (.p (.int 1)), some (.p (.lst cds)), some (.p (.lst (exs x))), y6, y7, y8, y9] m = .ok .nx [x0, x1, some (.p x), some (.p (.int 1)), some (.p (.lst cds)), some (.p (.lst (exs x))), w6, w7, w8, y9] m :=
  ⟨_, _, _, turn_1 (e := (.exn 17 [(21, x), (15, .str "InvalidSignature")])) (fd := (.tup [x])) (z := "InvalidSignature") (bare := false) (es := exs x) (bs := [.bl false, .bl true, .bl false, .bl false, .bl false, .bl false, .bl false, .bl false, .bl false, .bl false, .bl false, .bl false, .bl false, .bl false, .bl false, .bl false, .bl false]) (w := .lst [.bl true, .bl true, .bl false, .bl false, .bl false]) (by kernel_rfl) (by kernel_rfl) (by kernel_rfl) (by kernel_rfl)
    ((callAt_ok rfl).trans (fld_1 (by kernel_rfl))) rfl (same4.use (k := 3) (pl_lst (n := 2) (fun y hy => by
      simp at hy
      rcases hy with rfl | rfl
      · exact pl_str.up (by decide)
      · exact pl_tup (n := 1) (by intro y hy; rw [List.mem_singleton.mp hy]; exact hx) (by simp)) (by simp)) (by decide))
    ((callAt_ok rfl).trans (srt_1 (y := .lst [.bl false, .bl true, .bl false, .bl false, .bl false, .bl false, .bl false, .bl false, .bl false]) (by kernel_rfl))) (lc_k (by kernel_rfl)) (by kernel_rfl) (by kernel_rfl)⟩
theorem turn2 {j : Nat} {m : Mem} {x : P} (hx : Pl 1 x) {x0 x1 y6 y7 y8 y9 : Option D} : ∃ w6 w7 w8, denB (callAt pg (j + 6)) G1 B_law_v3_9 [x0, x1, some (.p x), some (.p (.int 2)), some (.p (.lst cds)), some (.p (.lst (exs x))), y6, y7, y8, y9] m = .ok .nx [x0, x1, some (.p x), some (.p (.int 2)), some (.p (.lst cds)), some (.p (.lst (exs x))), w6, w7, w8, y9] m :=
  ⟨_, _, _, turn_1 (e := (.exn 16 [(21, x), (15, .str "InvalidTable")])) (fd := (.tup [x])) (z := "InvalidTable") (bare := false) (es := exs x) (bs := [.bl false, .bl false, .bl true, .bl false, .bl false, .bl false, .bl false, .bl false, .bl false, .bl false, .bl false, .bl false, .bl false, .bl false, .bl false, .bl false, .bl false]) (w := .lst [.bl true, .bl true, .bl false, .bl false, .bl false]) (by kernel_rfl) (by kernel_rfl) (by kernel_rfl) (by kernel_rfl)
    ((callAt_ok rfl).trans (fld_1 (by kernel_rfl))) rfl (same4.use (k := 3) (pl_lst (n := 2) (fun y hy => by
      simp at hy
      rcases hy with rfl | rfl
      · exact pl_str.up (by decide)
      · exact pl_tup (n := 1) (by intro y hy; rw [List.mem_singleton.mp hy]; exact hx) (by simp)) (by simp)) (by decide))
    ((callAt_ok rfl).trans (srt_1 (y := .lst [.bl false, .bl false, .bl true, .bl false, .bl false, .bl false, .bl false, .bl false, .bl false]) (by kernel_rfl))) (lc_k (by kernel_rfl)) (by kernel_rfl) (by kernel_rfl)⟩
theorem turn3 {j : Nat} {m : Mem} {x : P} (hx : Pl 1 x) {x0 x1 y6 y7 y8 y9 : Option D} : ∃ w6 w7 w8, denB (callAt pg (j + 6)) G1 B_law_v3_9 [x0, x1, some (.p x), some (.p (.int 3)), some (.p (.lst cds)), some (.p (.lst (exs x))), y6, y7, y8, y9] m = .ok .nx [x0, x1, some (.p x), some (.p (.int 3)), some (.p (.lst cds)), some (.p (.lst (exs x))), w6, w7, w8, y9] m :=
  ⟨_, _, _, turn_1 (e := (.exn 15 [(21, x), (15, .str "InvalidRule")])) (fd := (.tup [x])) (z := "InvalidRule") (bare := false) (es := exs x) (bs := [.bl false, .bl false, .bl false, .bl true, .bl false, .bl false, .bl false, .bl false, .bl false, .bl false, .bl false, .bl false, .bl false, .bl false, .bl false, .bl false, .bl false]) (w := .lst [.bl true, .bl true, .bl false, .bl false, .bl false]) (by kernel_rfl) (by kernel_rfl) (by kernel_rfl) (by kernel_rfl)
    ((callAt_ok rfl).trans (fld_1 (by kernel_rfl))) rfl (same4.use (k := 3) (pl_lst (n := 2) (fun y hy => by
      simp at hy
      rcases hy with rfl | rfl
      · exact pl_str.up (by decide)
      · exact pl_tup (n := 1) (by intro y hy; rw [List.mem_singleton.mp hy]; exact hx) (by simp)) (by simp)) (by decide))
    ((callAt_ok rfl).trans (srt_1 (y := .lst [.bl false, .bl false, .bl false, .bl true, .bl false, .bl false, .bl false, .bl false, .bl false]) (by kernel_rfl))) (lc_k (by kernel_rfl)) (by kernel_rfl) (by kernel_rfl)⟩
theorem turn4 {j : Nat} {m : Mem} {x : P} (hx : Pl 1 x) {x0 x1 y6 y7 y8 y9 : Option D} : ∃ w6 w7 w8, denB (callAt pg (j + 6)) G1 B_law_v3_9 [x0, x1, some (.p x), some (.p (.int 4)), some (.p (.lst cds)), some (.p (.lst (exs x))), y6, y7, y8, y9] m = .ok .nx [x0, x1, some (.p x), some (.p (.int 4)), some (.p (.lst cds)), some (.p (.lst (exs x))), w6, w7, w8, y9] m :=
  ⟨_, _, _, turn_1 (e := (.exn 14 [(19, x), (15, .str "InvalidText")])) (fd := (.tup [x])) (z := "InvalidText") (bare := false) (es := exs x) (bs := [.bl false, .bl false, .bl false, .bl false, .bl true, .bl false, .bl false, .bl false, .bl false, .bl false, .bl false, .bl false, .bl false, .bl false, .bl false, .bl false, .bl false]) (w := .lst [.bl true, .bl true, .bl false, .bl false, .bl false]) (by kernel_rfl) (by kernel_rfl) (by kernel_rfl) (by kernel_rfl)
    ((callAt_ok rfl).trans (fld_1 (by kernel_rfl))) rfl (same4.use (k := 3) (pl_lst (n := 2) (fun y hy => by
      simp at hy
      rcases hy with rfl | rfl
      · exact pl_str.up (by decide)
      · exact pl_tup (n := 1) (by intro y hy; rw [List.mem_singleton.mp hy]; exact hx) (by simp)) (by simp)) (by decide))
    ((callAt_ok rfl).trans (srt_1 (y := .lst [.bl false, .bl false, .bl false, .bl false, .bl true, .bl false, .bl false, .bl false, .bl false]) (by kernel_rfl))) (lc_k (by kernel_rfl)) (by kernel_rfl) (by kernel_rfl)⟩
theorem turn5 {j : Nat} {m : Mem} {x : P} (hx : Pl 1 x) {x0 x1 y6 y7 y8 y9 : Option D} : ∃ w6 w7 w8, denB (callAt pg (j + 6)) G1 B_law_v3_9 [x0, x1, some (.p x), some (.p (.int 5)), some (.p (.lst cds)), some (.p (.lst (exs x))), y6, y7, y8, y9] m = .ok .nx [x0, x1, some (.p x), some (.p (.int 5)), some (.p (.lst cds)), some (.p (.lst (exs x))), w6, w7, w8, y9] m :=
  ⟨_, _, _, turn_1 (e := (.exn 13 [(17, x), (15, .str "InvalidThing")])) (fd := (.tup [x])) (z := "InvalidThing") (bare := false) (es := exs x) (bs := [.bl false, .bl false, .bl false, .bl false, .bl false, .bl true, .bl false, .bl false, .bl false, .bl false, .bl false, .bl false, .bl false, .bl false, .bl false, .bl false, .bl false]) (w := .lst [.bl true, .bl true, .bl false, .bl false, .bl false]) (by kernel_rfl) (by kernel_rfl) (by kernel_rfl) (by kernel_rfl)
    ((callAt_ok rfl).trans (fld_1 (by kernel_rfl))) rfl (same4.use (k := 3) (pl_lst (n := 2) (fun y hy => by
      simp at hy
      rcases hy with rfl | rfl
      · exact pl_str.up (by decide)
      · exact pl_tup (n := 1) (by intro y hy; rw [List.mem_singleton.mp hy]; exact hx) (by simp)) (by simp)) (by decide))
    ((callAt_ok rfl).trans (srt_1 (y := .lst [.bl false, .bl false, .bl false, .bl false, .bl false, .bl true, .bl false, .bl false, .bl false]) (by kernel_rfl))) (lc_k (by kernel_rfl)) (by kernel_rfl) (by kernel_rfl)⟩
theorem turn6 {j : Nat} {m : Mem} {x : P} (hx : Pl 1 x) {x0 x1 y6 y7 y8 y9 : Option D} : ∃ w6 w7 w8, denB (callAt pg (j + 6)) G1 B_law_v3_9 [x0, x1, some (.p x), some (.p (.int 6)), some (.p (.lst cds)), some (.p (.lst (exs x))), y6, y7, y8, y9] m = .ok .nx [x0, x1, some (.p x), some (.p (.int 6)), some (.p (.lst cds)), some (.p (.lst (exs x))), w6, w7, w8, y9] m :=
  ⟨_, _, _, turn_1 (e := (.exn 12 [(17, x), (15, .str "InvalidNumber")])) (fd := (.tup [x])) (z := "InvalidNumber") (bare := false) (es := exs x) (bs := [.bl false, .bl false, .bl false, .bl false, .bl false, .bl false, .bl true, .bl false, .bl false, .bl false, .bl false, .bl false, .bl false, .bl false, .bl false, .bl false, .bl false]) (w := .lst [.bl true, .bl true, .bl false, .bl false, .bl false]) (by kernel_rfl) (by kernel_rfl) (by kernel_rfl) (by kernel_rfl)
    ((callAt_ok rfl).trans (fld_1 (by kernel_rfl))) rfl (same4.use (k := 3) (pl_lst (n := 2) (fun y hy => by
      simp at hy
      rcases hy with rfl | rfl
      · exact pl_str.up (by decide)
      · exact pl_tup (n := 1) (by intro y hy; rw [List.mem_singleton.mp hy]; exact hx) (by simp)) (by simp)) (by decide))
    ((callAt_ok rfl).trans (srt_1 (y := .lst [.bl false, .bl false, .bl false, .bl false, .bl false, .bl false, .bl true, .bl false, .bl false]) (by kernel_rfl))) (lc_k (by kernel_rfl)) (by kernel_rfl) (by kernel_rfl)⟩
theorem turn7 {j : Nat} {m : Mem} {x : P} (hx : Pl 1 x) {x0 x1 y6 y7 y8 y9 : Option D} : ∃ w6 w7 w8, denB (callAt pg (j + 6)) G1 B_law_v3_9 [x0, x1, some (.p x), some (.p (.int 7)), some (.p (.lst cds)), some (.p (.lst (exs x))), y6, y7, y8, y9] m = .ok .nx [x0, x1, some (.p x), some (.p (.int 7)), some (.p (.lst cds)), some (.p (.lst (exs x))), w6, w7, w8, y9] m :=
  ⟨_, _, _, turn_1 (e := (.exn 11 [(17, x), (15, .str "InvalidWord")])) (fd := (.tup [x])) (z := "InvalidWord") (bare := false) (es := exs x) (bs := [.bl false, .bl false, .bl false, .bl false, .bl false, .bl false, .bl false, .bl true, .bl false, .bl false, .bl false, .bl false, .bl false, .bl false, .bl false, .bl false, .bl false]) (w := .lst [.bl true, .bl true, .bl false, .bl false, .bl false]) (by kernel_rfl) (by kernel_rfl) (by kernel_rfl) (by kernel_rfl)
    ((callAt_ok rfl).trans (fld_1 (by kernel_rfl))) rfl (same4.use (k := 3) (pl_lst (n := 2) (fun y hy => by
      simp at hy
      rcases hy with rfl | rfl
      · exact pl_str.up (by decide)
      · exact pl_tup (n := 1) (by intro y hy; rw [List.mem_singleton.mp hy]; exact hx) (by simp)) (by simp)) (by decide))
    ((callAt_ok rfl).trans (srt_1 (y := .lst [.bl false, .bl false, .bl false, .bl false, .bl false, .bl false, .bl false, .bl true, .bl false]) (by kernel_rfl))) (lc_k (by kernel_rfl)) (by kernel_rfl) (by kernel_rfl)⟩
theorem turn8 {j : Nat} {m : Mem} {x : P} (hx : Pl 1 x) {x0 x1 y6 y7 y8 y9 : Option D} : ∃ w6 w7 w8, denB (callAt pg (j + 6)) G1 B_law_v3_9 [x0, x1, some (.p x), some (.p (.int 8)), some (.p (.lst cds)), some (.p (.lst (exs x))), y6, y7, y8, y9] m = .ok .nx [x0, x1, some (.p x), some (.p (.int 8)), some (.p (.lst cds)), some (.p (.lst (exs x))), w6, w7, w8, y9] m :=
  ⟨_, _, _, turn_1 (e := (.exn 10 [(17, x), (15, .str "InvalidLimit")])) (fd := (.tup [x])) (z := "InvalidLimit") (bare := false) (es := exs x) (bs := [.bl false, .bl false, .bl false, .bl false, .bl false, .bl false, .bl false, .bl false, .bl true, .bl false, .bl false, .bl false, .bl false, .bl false, .bl false, .bl false, .bl false]) (w := .lst [.bl true, .bl true, .bl false, .bl false, .bl false]) (by kernel_rfl) (by kernel_rfl) (by kernel_rfl) (by kernel_rfl)
    ((callAt_ok rfl).trans (fld_1 (by kernel_rfl))) rfl (same4.use (k := 3) (pl_lst (n := 2) (fun y hy => by
      simp at hy
      rcases hy with rfl | rfl
      · exact pl_str.up (by decide)
      · exact pl_tup (n := 1) (by intro y hy; rw [List.mem_singleton.mp hy]; exact hx) (by simp)) (by simp)) (by decide))
    ((callAt_ok rfl).trans (srt_1 (y := .lst [.bl false, .bl false, .bl false, .bl false, .bl false, .bl false, .bl false, .bl false, .bl true]) (by kernel_rfl))) (lc_k (by kernel_rfl)) (by kernel_rfl) (by kernel_rfl)⟩
theorem turn9 {j : Nat} {m : Mem} {x : P} (hx : Pl 1 x) {x0 x1 y6 y7 y8 y9 : Option D} : ∃ w6 w7 w8, denB (callAt pg (j + 6)) G1 B_law_v3_9 [x0, x1, some (.p x), some (.p (.int 9)), some (.p (.lst cds)), some (.p (.lst (exs x))), y6, y7, y8, y9] m = .ok .nx [x0, x1, some (.p x), some (.p (.int 9)), some (.p (.lst cds)), some (.p (.lst (exs x))), w6, w7, w8, y9] m :=
  ⟨_, _, _, turn_1 (e := (.exn 9 [(18, x), (15, .str "InvalidCommand")])) (fd := (.tup [x])) (z := "InvalidCommand") (bare := false) (es := exs x) (bs := [.bl false, .bl false, .bl false, .bl false, .bl false, .bl false, .bl false, .bl false, .bl false, .bl true, .bl false, .bl false, .bl false, .bl false, .bl false, .bl false, .bl false]) (w := .lst [.bl true, .bl true, .bl false, .bl false, .bl false]) (by kernel_rfl) (by kernel_rfl) (by kernel_rfl) (by kernel_rfl)
    ((callAt_ok rfl).trans (fld_1 (by kernel_rfl))) rfl (same4.use (k := 3) (pl_lst (n := 2) (fun y hy => by
      simp at hy
      rcases hy with rfl | rfl
      · exact pl_str.up (by decide)
      · exact pl_tup (n := 1) (by intro y hy; rw [List.mem_singleton.mp hy]; exact hx) (by simp)) (by simp)) (by decide))
    ((callAt_ok rfl).trans (srt_1 (y := .lst [.bl false, .bl false, .bl false, .bl false, .bl false, .bl false, .bl false, .bl false, .bl false]) (by kernel_rfl))) (lc_k (by kernel_rfl)) (by kernel_rfl) (by kernel_rfl)⟩
theorem turn10 {j : Nat} {m : Mem} {x : P} (hx : Pl 1 x) {x0 x1 y6 y7 y8 y9 : Option D} : ∃ w6 w7 w8, denB (callAt pg (j + 6)) G1 B_law_v3_9 [x0, x1, some (.p x), some (.p (.int 10)), some (.p (.lst cds)), some (.p (.lst (exs x))), y6, y7, y8, y9] m = .ok .nx [x0, x1, some (.p x), some (.p (.int 10)), some (.p (.lst cds)), some (.p (.lst (exs x))), w6, w7, w8, y9] m :=
  ⟨_, _, _, turn_1 (e := (.exn 8 [(17, x), (15, .str "DuplicateName")])) (fd := (.tup [x])) (z := "DuplicateName") (bare := false) (es := exs x) (bs := [.bl false, .bl false, .bl false, .bl false, .bl false, .bl false, .bl false, .bl false, .bl false, .bl false, .bl true, .bl false, .bl false, .bl false, .bl false, .bl false, .bl false]) (w := .lst [.bl true, .bl true, .bl false, .bl false, .bl false]) (by kernel_rfl) (by kernel_rfl) (by kernel_rfl) (by kernel_rfl)
    ((callAt_ok rfl).trans (fld_1 (by kernel_rfl))) rfl (same4.use (k := 3) (pl_lst (n := 2) (fun y hy => by
      simp at hy
      rcases hy with rfl | rfl
      · exact pl_str.up (by decide)
      · exact pl_tup (n := 1) (by intro y hy; rw [List.mem_singleton.mp hy]; exact hx) (by simp)) (by simp)) (by decide))
    ((callAt_ok rfl).trans (srt_1 (y := .lst [.bl false, .bl false, .bl false, .bl false, .bl false, .bl false, .bl false, .bl false, .bl false]) (by kernel_rfl))) (lc_k (by kernel_rfl)) (by kernel_rfl) (by kernel_rfl)⟩
theorem turn11 {j : Nat} {m : Mem} {x : P} (hx : Pl 1 x) {x0 x1 y6 y7 y8 y9 : Option D} : ∃ w6 w7 w8, denB (callAt pg (j + 6)) G1 B_law_v3_9 [x0, x1, some (.p x), some (.p (.int 11)), some (.p (.lst cds)), some (.p (.lst (exs x))), y6, y7, y8, y9] m = .ok .nx [x0, x1, some (.p x), some (.p (.int 11)), some (.p (.lst cds)), some (.p (.lst (exs x))), w6, w7, w8, y9] m :=
  ⟨_, _, _, turn_1 (e := (.exn 7 [(15, .str "Unlike")])) (fd := (.tup [])) (z := "Unlike") (bare := true) (es := exs x) (bs := [.bl false, .bl false, .bl false, .bl false, .bl false, .bl false, .bl false, .bl false, .bl false, .bl false, .bl false, .bl true, .bl false, .bl false, .bl false, .bl false, .bl false]) (w := .lst [.bl true, .bl true, .bl false, .bl false, .bl false]) (by kernel_rfl) (by kernel_rfl) (by kernel_rfl) (by kernel_rfl)
    ((callAt_ok rfl).trans (fld_1 (by kernel_rfl))) rfl (same4.use (k := 3) (pl_lst (n := 2) (fun y hy => by
      simp at hy
      rcases hy with rfl | rfl
      · exact pl_str.up (by decide)
      · exact pl_tup (n := 1) (by simp) (by simp)) (by simp)) (by decide))
    ((callAt_ok rfl).trans (srt_1 (y := .lst [.bl false, .bl false, .bl false, .bl false, .bl false, .bl false, .bl false, .bl false, .bl false]) (by kernel_rfl))) (lc_k (by kernel_rfl)) (by kernel_rfl) (by kernel_rfl)⟩
theorem turn12 {j : Nat} {m : Mem} {x : P} (hx : Pl 1 x) {x0 x1 y6 y7 y8 y9 : Option D} : ∃ w6 w7 w8, denB (callAt pg (j + 6)) G1 B_law_v3_9 [x0, x1, some (.p x), some (.p (.int 12)), some (.p (.lst cds)), some (.p (.lst (exs x))), y6, y7, y8, y9] m = .ok .nx [x0, x1, some (.p x), some (.p (.int 12)), some (.p (.lst cds)), some (.p (.lst (exs x))), w6, w7, w8, y9] m :=
  ⟨_, _, _, turn_1 (e := (.exn 6 [(20, x), (15, .str "TooGreat")])) (fd := (.tup [x])) (z := "TooGreat") (bare := false) (es := exs x) (bs := [.bl false, .bl false, .bl false, .bl false, .bl false, .bl false, .bl false, .bl false, .bl false, .bl false, .bl false, .bl false, .bl true, .bl false, .bl false, .bl false, .bl false]) (w := .lst [.bl true, .bl true, .bl false, .bl false, .bl false]) (by kernel_rfl) (by kernel_rfl) (by kernel_rfl) (by kernel_rfl)
    ((callAt_ok rfl).trans (fld_1 (by kernel_rfl))) rfl (same4.use (k := 3) (pl_lst (n := 2) (fun y hy => by
      simp at hy
      rcases hy with rfl | rfl
      · exact pl_str.up (by decide)
      · exact pl_tup (n := 1) (by intro y hy; rw [List.mem_singleton.mp hy]; exact hx) (by simp)) (by simp)) (by decide))
    ((callAt_ok rfl).trans (srt_1 (y := .lst [.bl false, .bl false, .bl false, .bl false, .bl false, .bl false, .bl false, .bl false, .bl false]) (by kernel_rfl))) (lc_k (by kernel_rfl)) (by kernel_rfl) (by kernel_rfl)⟩
theorem turn13 {j : Nat} {m : Mem} {x : P} (hx : Pl 1 x) {x0 x1 y6 y7 y8 y9 : Option D} : ∃ w6 w7 w8, denB (callAt pg (j + 6)) G1 B_law_v3_9 [x0, x1, some (.p x), some (.p (.int 13)), some (.p (.lst cds)), some (.p (.lst (exs x))), y6, y7, y8, y9] m = .ok .nx [x0, x1, some (.p x), some (.p (.int 13)), some (.p (.lst cds)), some (.p (.lst (exs x))), w6, w7, w8, y9] m :=
  ⟨_, _, _, turn_1 (e := (.exn 5 [(20, x), (15, .str "TooLong")])) (fd := (.tup [x])) (z := "TooLong") (bare := false) (es := exs x) (bs := [.bl false, .bl false, .bl false, .bl false, .bl false, .bl false, .bl false, .bl false, .bl false, .bl false, .bl false, .bl false, .bl false, .bl true, .bl false, .bl false, .bl false]) (w := .lst [.bl true, .bl true, .bl false, .bl false, .bl false]) (by kernel_rfl) (by kernel_rfl) (by kernel_rfl) (by kernel_rfl)
    ((callAt_ok rfl).trans (fld_1 (by kernel_rfl))) rfl (same4.use (k := 3) (pl_lst (n := 2) (fun y hy => by
      simp at hy
      rcases hy with rfl | rfl
      · exact pl_str.up (by decide)
      · exact pl_tup (n := 1) (by intro y hy; rw [List.mem_singleton.mp hy]; exact hx) (by simp)) (by simp)) (by decide))
    ((callAt_ok rfl).trans (srt_1 (y := .lst [.bl false, .bl false, .bl false, .bl false, .bl false, .bl false, .bl false, .bl false, .bl false]) (by kernel_rfl))) (lc_k (by kernel_rfl)) (by kernel_rfl) (by kernel_rfl)⟩
theorem turn14 {j : Nat} {m : Mem} {x : P} (hx : Pl 1 x) {x0 x1 y6 y7 y8 y9 : Option D} : ∃ w6 w7 w8, denB (callAt pg (j + 6)) G1 B_law_v3_9 [x0, x1, some (.p x), some (.p (.int 14)), some (.p (.lst cds)), some (.p (.lst (exs x))), y6, y7, y8, y9] m = .ok .nx [x0, x1, some (.p x), some (.p (.int 14)), some (.p (.lst cds)), some (.p (.lst (exs x))), w6, w7, w8, y9] m :=
  ⟨_, _, _, turn_1 (e := (.exn 4 [(16, x), (15, .str "CapacityExceeded")])) (fd := (.tup [x])) (z := "CapacityExceeded") (bare := false) (es := exs x) (bs := [.bl false, .bl false, .bl false, .bl false, .bl false, .bl false, .bl false, .bl false, .bl false, .bl false, .bl false, .bl false, .bl false, .bl false, .bl true, .bl false, .bl false]) (w := .lst [.bl true, .bl true, .bl false, .bl false, .bl false]) (by kernel_rfl) (by kernel_rfl) (by kernel_rfl) (by kernel_rfl)
    ((callAt_ok rfl).trans (fld_1 (by kernel_rfl))) rfl (same4.use (k := 3) (pl_lst (n := 2) (fun y hy => by
      simp at hy
      rcases hy with rfl | rfl
      · exact pl_str.up (by decide)
      · exact pl_tup (n := 1) (by intro y hy; rw [List.mem_singleton.mp hy]; exact hx) (by simp)) (by simp)) (by decide))
    ((callAt_ok rfl).trans (srt_1 (y := .lst [.bl false, .bl false, .bl false, .bl false, .bl false, .bl false, .bl false, .bl false, .bl false]) (by kernel_rfl))) (lc_k (by kernel_rfl)) (by kernel_rfl) (by kernel_rfl)⟩
theorem turn15 {j : Nat} {m : Mem} {x : P} (hx : Pl 1 x) {x0 x1 y6 y7 y8 y9 : Option D} : ∃ w6 w7 w8, denB (callAt pg (j + 6)) G1 B_law_v3_9 [x0, x1, some (.p x), some (.p (.int 15)), some (.p (.lst cds)), some (.p (.lst (exs x))), y6, y7, y8, y9] m = .ok .nx [x0, x1, some (.p x), some (.p (.int 15)), some (.p (.lst cds)), some (.p (.lst (exs x))), w6, w7, w8, y9] m :=
  ⟨_, _, _, turn_1 (e := (.exn 3 [(17, x), (15, .str "UnknownName")])) (fd := (.tup [x])) (z := "UnknownName") (bare := false) (es := exs x) (bs := [.bl false, .bl false, .bl false, .bl false, .bl false, .bl false, .bl false, .bl false, .bl false, .bl false, .bl false, .bl false, .bl false, .bl false, .bl false, .bl true, .bl false]) (w := .lst [.bl false, .bl false, .bl true, .bl true, .bl false]) (by kernel_rfl) (by kernel_rfl) (by kernel_rfl) (by kernel_rfl)
    ((callAt_ok rfl).trans (fld_1 (by kernel_rfl))) rfl (same4.use (k := 3) (pl_lst (n := 2) (fun y hy => by
      simp at hy
      rcases hy with rfl | rfl
      · exact pl_str.up (by decide)
      · exact pl_tup (n := 1) (by intro y hy; rw [List.mem_singleton.mp hy]; exact hx) (by simp)) (by simp)) (by decide))
    ((callAt_ok rfl).trans (srt_1 (y := .lst [.bl false, .bl false, .bl false, .bl false, .bl false, .bl false, .bl false, .bl false, .bl false]) (by kernel_rfl))) (lc_k (by kernel_rfl)) (by kernel_rfl) (by kernel_rfl)⟩
theorem turn16 {j : Nat} {m : Mem} {x : P} (hx : Pl 1 x) {x0 x1 y6 y7 y8 y9 : Option D} : ∃ w6 w7 w8, denB (callAt pg (j + 6)) G1 B_law_v3_9 [x0, x1, some (.p x), some (.p (.int 16)), some (.p (.lst cds)), some (.p (.lst (exs x))), y6, y7, y8, y9] m = .ok .nx [x0, x1, some (.p x), some (.p (.int 16)), some (.p (.lst cds)), some (.p (.lst (exs x))), w6, w7, w8, y9] m :=
  ⟨_, _, _, turn_1 (e := (.exn 2 [(15, .str "NothingLeft")])) (fd := (.tup [])) (z := "NothingLeft") (bare := true) (es := exs x) (bs := [.bl false, .bl false, .bl false, .bl false, .bl false, .bl false, .bl false, .bl false, .bl false, .bl false, .bl false, .bl false, .bl false, .bl false, .bl false, .bl false, .bl true]) (w := .lst [.bl false, .bl false, .bl false, .bl true, .bl true]) (by kernel_rfl) (by kernel_rfl) (by kernel_rfl) (by kernel_rfl)
    ((callAt_ok rfl).trans (fld_1 (by kernel_rfl))) rfl (same4.use (k := 3) (pl_lst (n := 2) (fun y hy => by
      simp at hy
      rcases hy with rfl | rfl
      · exact pl_str.up (by decide)
      · exact pl_tup (n := 1) (by simp) (by simp)) (by simp)) (by decide))
    ((callAt_ok rfl).trans (srt_1 (y := .lst [.bl false, .bl false, .bl false, .bl false, .bl false, .bl false, .bl false, .bl false, .bl false]) (by kernel_rfl))) (lc_k (by kernel_rfl)) (by kernel_rfl) (by kernel_rfl)⟩
theorem turns {j : Nat} {m : Mem} {x : P} (hx : Pl 1 x) {k : Nat} (hk : k < 17) {x0 x1 y6 y7 y8 y9 : Option D} : ∃ w6 w7 w8, denB (callAt pg (j + 6)) G1 B_law_v3_9 [x0, x1, some (.p x), some (.p (.int ((k : Nat) : Int))), some (.p (.lst cds)), some (.p (.lst (exs x))), y6, y7, y8, y9] m = .ok .nx [x0, x1, some (.p x), some (.p (.int ((k : Nat) : Int))), some (.p (.lst cds)), some (.p (.lst (exs x))), w6, w7, w8, y9] m :=
  match k, hk with
  | 0, _ => turn0 hx
  | 1, _ => turn1 hx
  | 2, _ => turn2 hx
  | 3, _ => turn3 hx
  | 4, _ => turn4 hx
  | 5, _ => turn5 hx
  | 6, _ => turn6 hx
  | 7, _ => turn7 hx
  | 8, _ => turn8 hx
  | 9, _ => turn9 hx
  | 10, _ => turn10 hx
  | 11, _ => turn11 hx
  | 12, _ => turn12 hx
  | 13, _ => turn13 hx
  | 14, _ => turn14 hx
  | 15, _ => turn15 hx
  | 16, _ => turn16 hx
  | n + 17, h => absurd h (by omega)
end Law
end

noncomputable section
namespace Law
open Dn PySem PySem.Spec PyProof.Rows L2
def xsL (v : Nat) : List P := [.int (v : Int), .str "a", .non, .tup [.int 1, .str "b"], .bl true, .int (-1)]
theorem xs_pl {v : Nat} : ∀ x ∈ xsL v, Pl 1 x := fun x hx => by
  simp only [xsL, List.mem_cons, List.not_mem_nil, or_false] at hx
  rcases hx with rfl | rfl | rfl | rfl | rfl | rfl
  · exact pl_int.up (by decide)
  · exact pl_str.up (by decide)
  · exact ⟨rfl, Nat.zero_le _⟩
  · exact pl_tup (n := 0) (fun y hy => by
      simp only [List.mem_cons, List.not_mem_nil, or_false] at hy
      rcases hy with rfl | rfl
      · exact pl_int
      · exact pl_str) (by simp)
  · exact pl_bl.up (by decide)
  · exact pl_int.up (by decide)
structure Env1 (cl : Dn.Cl) : Prop where
  bag : BagC cl
  pull : PullC cl
  of : OfC cl
  codes : ∀ m, cl 104 [] m = .ok (.p (.lst cds)) m
  errs : ∀ x m, cl 103 [.p x] m = .ok (.p (.lst (exs x))) m
  turn : ∀ {m : Mem} {x : P} (_ : Pl 1 x) {k : Nat} (_ : k < 17) {x0 x1 y6 y7 y8 y9 : Option D}, ∃ w6 w7 w8, denB cl G1 B_law_v3_9 [x0, x1, some (.p x), some (.p (.int ((k : Nat) : Int))), some (.p (.lst cds)), some (.p (.lst (exs x))), y6, y7, y8, y9] m = .ok .nx [x0, x1, some (.p x), some (.p (.int ((k : Nat) : Int))), some (.p (.lst cds)), some (.p (.lst (exs x))), w6, w7, w8, y9] m
theorem law_1 {cl : Dn.Cl} (E : Env1 cl) {ns : List Int} (hl : ns.length ≤ 63) : ∃ m, runD cl G1 D_law_v3 [.p (.scr ns)] [] = .ok (.p (.bl true)) m := by
  unfold D_law_v3
  rw [runD_ok (np := 1) rfl]
  obtain ⟨b, e0⟩ := E.bag ns hl
  suffices h : ∃ m', endS (denB cl G1 B_law_v3_13 (startD 10 [.p (.scr ns)]) []) = .ok (.p (.bl true)) m' by
    obtain ⟨m', h⟩ := h
    rw [h]
    by_cases c : Tame [] m'
    · exact ⟨_, trim_tame c⟩
    · exact ⟨m', if_neg c⟩
  have pw : binS .pow (.p (.int 10)) (.p (.int 9)) (Bg b []) = .ok (.p (.int 1000000000)) (Bg b []) := o_pow (by decide) (by decide) (by decide)
  have pl := E.pull b [] 1000000000 (by decide) (by decide)
  generalize (b.pull 1000000000).2 = b1 at pl
  generalize (b.pull 1000000000).1 = v at pl
  have pl : cl 3 [.ref 0, .p (.int 1000000000)] (Bg b []) = .ok (.p (.int (v : Int))) (Bg b1 []) := pl
  have ml : ∀ m, mkL false [.p (.int (v : Int)), .p (.str "a"), .p .non, .p (.tup [.int 1, .str "b"]), .p (.bl true), .p (.int (-1))] m = .ok (.p (.lst (xsL v))) m := fun m => mkL_p (l := xsL v)
  have t2 : ∀ m, mkT [.p (.int 1), .p (.str "b")] m = .ok (.p (.tup [.int 1, .str "b"])) m := fun m => mkT_ rfl
  have ng : ∀ δ m, den cl G1 (.neg (.cst (.int 1))) δ m = .ok (.p (.int (-1))) m := fun δ m => rfl
  have of := E.of.l (fun x : P => x) b1 [] (xsL v) (by simp [xsL]) (by simp [xsL])
  rw [List.map_id'] at of
  have hx : Pl 1 (b1.of (xsL v)).1 := xs_pl _ (b1.of_mem (by simp [xsL]))
  generalize (b1.of (xsL v)).1 = x at of hx
  generalize (b1.of (xsL v)).2 = b2 at of
  simp [B_law_v3_13, e0]
  simp [B_law_v3_12, pw, pl, t2, ng, ml, of]
  simp [B_law_v3_11, E.codes, E.errs]
  refine for_p (K := fun z => ∃ m', endS z = .ok (.p (.bl true)) m') (fun k : Nat => Dn.D.p (.int (k : Int))) (List.range 17) (fun pre δ m' => ∃ x0 x1 x3 x6 x7 x8 x9, δ = [x0, x1, some (.p x), x3, some (.p (.lst cds)), some (.p (.lst (exs x))), x6, x7, x8, x9] ∧ m' = Bg b2 [])
    (by kernel_rfl) ⟨_, _, _, _, _, _, _, rfl, rfl⟩ (fun pre k post hq δ m' ⟨x0, x1, x3, x6, x7, x8, x9, i1, i2⟩ => ?_) (fun δ m' ⟨x0, x1, x3, x6, x7, x8, x9, i1, i2⟩ => ?_)
  · rw [i1, i2, fb_nm]
    have hk : k < 17 := List.mem_range.mp (by rw [hq]; simp)
    obtain ⟨w6, w7, w8, e⟩ := E.turn (m := Bg b2 []) hx hk (x0 := x0) (x1 := x1) (y6 := x6) (y7 := x7) (y8 := x8) (y9 := x9)
    show S.nx _ (denB cl G1 B_law_v3_9 [x0, x1, some (.p x), some (.p (.int ((k : Nat) : Int))), some (.p (.lst cds)), some (.p (.lst (exs x))), x6, x7, x8, x9] (Bg b2 []))
    rw [e]
    exact ⟨_, _, _, _, _, _, _, rfl, rfl⟩
  · rw [i1, i2]
    exact ⟨_, rfl⟩
theorem env1 {j : Nat} : Env1 (callAt pg (j + 6)) where
  bag := bag_ok (p := pg) (k := j + 5) rfl
  pull := pull_ok (p := pg) (k := j + 5) rfl
  of := of_ok (p := pg) (k := j + 4) rfl rfl
  codes := fun m => (callAt_ok rfl).trans codes_1
  errs := fun x m => (callAt_ok rfl).trans errs_1
  turn := fun hx _ hk _ _ _ _ _ _ => turns hx hk
theorem law_pure {j : Nat} (ns : List Int) (hl : ns.length ≤ 63) : ∃ m, callAt pg (j + 7) 7 [.p (.scr ns)] [] = .ok (.p (.bl true)) m := by
  rw [callAt_ok (d := D_law_v3) rfl]
  exact law_1 env1 hl
end Law
end

theorem PySem.Challenge.cw_keptlaws_k01_errors_by_themselves_holds : PySem.Challenge.rw_keptlaws_k01_errors_by_themselves.Holds :=
  Law.law_ok 7 ⟨rfl, by decide, by decide⟩ fun ns hl _ => Law.law_pure (j := 0) ns hl
