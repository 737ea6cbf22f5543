import PyProof.Rows.All
import KE.KStateDown
import HandS.Words
import HandS.Head0
import HandS.Head1
import HandS.Head2
import HandS.HeadHook1
import HandS.HeadHook2
import PySem.Challenge.RW_allbeneath_k02_formulas_of_any_parts
import Wide.All
import OpenK.AllK
import Wide.FinOn
import HandS.ForMost
import HandS.DictComp
import HandS.FStr
import HandS.Star
import HandS.Property
import HandS.TupAny
import HandS.Codes
import HandS.More
import HandS.Conv
import HandS.Strs
import HandS.Style
import HandS.IsInst
import HandS.Defaults
import HandS.Flow
import HandS.MakeKwOnly
import HandS.SortKw
import HandS.WrittenGet
import HandS.MethStar
import KE.KOpsOwn
import KE.KCallOwn
import OpenK.KOps
import KE.DatumIndex
import PyProof.ReprRoads
import PyProof.ReprBulk
import HandS.RaiseMore
import KE.KeyNested
import PyProof.Rows.StrMeet
import KE.KEqDict
import HandS.SetFor
import PyProof.StrWalks
import PyProof.Rows.SortShellAny
import HandS.SetTxt0
import PyProof.Rows.StrMul
import HandS.TupMul
import HandS.Exc
import HandS.ExcInit
import HandS.ExcSuper
import HandS.ExcField
import HandS.ExcIs
import HandS.TryOnly
import HandS.ClsMeth
import HandS.WordsExc
import HandS.ExcOwn
import HandS.TryMany
import PyProof.NeKinds
import PyProof.EqAt
import KE.GoesZip
import KE.GoesMore
import KE.GoesEnumKw
import HandS.Zip
import KE.GoesEnum
import HandS.SortInts
import HandS.SlotsOwn
import PyProof.InstEq
import PyProof.P3Eq
import PyProof.ListStr
import OpenK.KMeth
import KE.KExcIs
import HandS.TupLen
import PyProof.Rows.TupTab
import HandS.SetBool
import HandS.SetKeys
import KE.KDictPairs
import HandS.Iter
import PyProof.DictDisplay
import HandS.OwnEq
import HandS.ListItems
import HandS.WordsDict
import HandS.ExcValue
import HandS.HotCalls
set_option Elab.async false
set_option linter.all false
set_option maxRecDepth 100000
set_option maxHeartbeats 2000000
namespace N
open PySem PySem.Spec PyProof.Rows L2
abbrev Fg := PySem.W.Frag
def gA (K : Fg) (x : Str) : Addr := He.ga K x
def mA (K : Fg) (c m : Str) : Addr := He.ma K (He.ga K c) m
def isVal (K : Fg) (C : Addr) (m : Str) (u : Value) : Bool := match PySem.W.findCls K (.ref C) (.type "type") m with
  | some (.val v) => decide (v = u)
  | _ => false
def isStrG (K : Fg) (x z : Str) : Bool := match PySem.W.nsIn K mainGlobals x with
  | some (some (.str y _)) => decide (y = z)
  | _ => false
def isIntIn (K : Fg) (d : Addr) (x : Str) (i : Int) : Bool := match PySem.W.nsIn K d x with
  | some (some (.int j _)) => decide (j = i)
  | _ => false
def isExc (K : Fg) (C CW : Addr) : Bool := match K.lookup C with
  | some ⟨c, dd, .cls cd, sl⟩ => decide (c = .type "type") && (decide (cd.mro = [.ref C, .ref CW, .type "Exception", .type "BaseException", .type "object"]) && (cd.hasDict && (!cd.hasDel && (match sl.toList with
    | [_, _, _, _, some v, _] => decide (v = .builtin "Exception.__new__")
    | _ => false))))
  | _ => false
def isDic (K : Fg) (d : Addr) : Bool := match K.lookup d with
  | some ⟨c, none, .dict es _, sl⟩ => decide (c = .type "dict") && (sl.toList.isEmpty && es.toList.all fun e => match e.key with
    | .str _ _ => true
    | _ => false)
  | _ => false
def keysY (K : Fg) (d : Addr) : List (Str × Int) := match K.lookup d with
  | some ⟨_, _, .dict es _, _⟩ => es.toList.map fun e => match e.key with
    | .str x _ => (x, e.hash)
    | _ => ("", 0)
  | _ => []
structure DefT where
  at_ : Fg → Addr
  name : Str
  qual : Str
  st : Stmt
  dn : Bool
def fnY (K : Fg) (a : Addr) : He.FnW := match K.lookup a with
  | some ⟨_, _, .func fd, _⟩ => some (fd.name, fd.qualname, fd.params, fd.body, fd.scope, fd.globals, fd.closure, fd.builtins)
  | _ => none
def DefT.val (d : DefT) : He.FnW := some (d.name, d.qual, defArgs d.st, .stmts (defBody d.st), defScope d.st, mainGlobals, [], builtinsNs)
def isNon : Value → Bool
  | .none => true
  | _ => false
def nonSeq (K : Fg) (v : Value) : Bool := match v with
  | .ref T => (match K.lookup T with
    | some ⟨_, _, .seq its _, _⟩ => (match its.toList with
      | [v] => isNon v
      | _ => false)
    | _ => false)
  | _ => false
def DefT.ok (K : Fg) (d : DefT) : Bool := PySem.W.keepIn K (.ref (d.at_ K)) && (match K.lookup (d.at_ K) with
  | some ⟨_, _, .func fd, _⟩ => PySem.W.codeIn K fd.code d.qual && (match d.dn with
    | false => isNon fd.defaults
    | true => nonSeq K fd.defaults)
  | _ => false)
structure DicT where
  at_ : Fg → Addr
  keys : List Str
abbrev AlT : Type := Bool × List He.FnW × List (List (Str × Int))
def obsT (ts : List (Fg → Bool)) (fn : List DefT) (dk : List DicT) (K : Fg) : AlT := ((ts.all fun t => t K) && (fn.all fun d => d.ok K), fn.map fun d => fnY K (d.at_ K), dk.map fun d => keysY K (d.at_ K))
def valT (fn : List DefT) (dk : List DicT) (w : World) : AlT := (true, fn.map DefT.val, dk.map fun d => d.keys.map fun k => (k, PyData.keyHash w.params k))
def frNs {β : Type} : List Nat → (List Nat → β) → β
  | [], k => k []
  | x :: l, k => HandSHeadRun.frNat x fun x => frNs l fun l => k (x :: l)
theorem frNs_eq {β : Type} : ∀ (l : List Nat) (k : List Nat → β), frNs l k = k l
  | [], _ => rfl
  | x :: l, k => by
    unfold frNs
    rw [HandSHeadRun.frNat_eq, frNs_eq]
def frOb {β : Type} (o : Obj) (k : Obj → β) : β := match o with
  | ⟨c, d, dt, sl⟩ => k ⟨c, d, dt, sl⟩
theorem frOb_eq {β : Type} (o : Obj) (k : Obj → β) : frOb o k = k o := by cases o; rfl
def frFg {β : Type} : Fg → (Fg → β) → β
  | [], k => k []
  | x :: l, k => HandSHeadRun.frNat x.1 fun a => frOb x.2 fun o => frFg l fun l => k ((a, o) :: l)
theorem frFg_eq {β : Type} : ∀ (l : Fg) (k : Fg → β), frFg l k = k l
  | [], _ => rfl
  | x :: l, k => by
    unfold frFg
    rw [HandSHeadRun.frNat_eq, frOb_eq, frFg_eq]
def obsTG (ts : List (Fg → Bool)) (fn : List DefT) (dk : List DicT) (n : Nat) (g : Addr → Option Obj) : AlT := frNs (List.range n) fun as => frFg (He.frG g as) fun K => obsT ts fn dk K
theorem obsTG_eq (ts : List (Fg → Bool)) (fn : List DefT) (dk : List DicT) (n : Nat) (g : Addr → Option Obj) : obsTG ts fn dk n g = obsT ts fn dk (He.frG g (List.range n)) := by
  unfold obsTG
  rw [frNs_eq, frFg_eq]
def SaysT (ts : List (Fg → Bool)) (fn : List DefT) (dk : List DicT) (w : World) (K : Fg) : Prop := obsT ts fn dk K = valT fn dk w
def hookT (ts : List (Fg → Bool)) (fn : List DefT) (dk : List DicT) : PySem.W.Hook where
  α := AlT
  obs := fun s => obsTG ts fn dk s.heap.objs.size s.heap.get?
  val := fun w => valT fn dk w
  says := fun w h => ∃ K : Fg, K.In h ∧ SaysT ts fn dk w K
  of := fun _ _ e => ⟨_, He.frG_in, by unfold SaysT; rw [← obsTG_eq]; exact e⟩
  keeps := fun _ _ _ ⟨K, hK, c⟩ k => ⟨K, PySem.W.Frag.In.keeps hK k, c⟩
def obT (ts : List (Fg → Bool)) (fn : List DefT) (dk : List DicT) (s : PySem.W.SharedT) : AlT := obsTG ts fn dk s.n (HandSHeadRun.getT s)
theorem obT_eq {ts : List (Fg → Bool)} {fn : List DefT} {dk : List DicT} (s : PySem.W.SharedT) : obT ts fn dk s = (hookT ts fn dk).obs s.abs := by
  have e : HandSHeadRun.getT s = s.abs.heap.get? := funext (HandSHeadRun.getT_eq s)
  have e2 : s.n = s.abs.heap.objs.size := (PySem.W.absHeap_size s.tree s.n s.life).symm
  unfold obT
  rw [e, e2]
  rfl
end N
set_option linter.all false
namespace N
open PySem PySem.Spec PyProof.Rows L2
def kdNo (K : PySem.W.Frag) (d : Addr) (l : List Str) : Bool := l.all fun k => decide (PySem.W.nsIn K d k = some none)
end N
set_option Elab.async false
set_option linter.all false
set_option maxRecDepth 100000
set_option maxHeartbeats 0
namespace N
open PySem PySem.Spec PyProof.Rows L2
namespace HH
def top (i : Nat) : Stmt := PySem.Challenge.pw_allbeneath_k02_formulas_of_any_parts.main.body.getD i (.Pass ⟨0, 0, 0, 0⟩)
abbrev s_BadFormula___init__ : Stmt := inClass (top 3) 0
abbrev s_united : Stmt := top 15
abbrev s_merged : Stmt := top 16
abbrev s_is_atom : Stmt := top 14
abbrev s_Formula___init__ : Stmt := inClass (top 17) 0
abbrev s_Formula___eq__ : Stmt := inClass (top 17) 6
abbrev s_atom : Stmt := top 22
abbrev s_Formula___str__ : Stmt := inClass (top 17) 7
abbrev s_law_deck : Stmt := top 29
abbrev s_law_draw : Stmt := top 30
abbrev s_law_pick : Stmt := top 31
abbrev s_law_form : Stmt := top 32
abbrev s_law_text : Stmt := top 33
abbrev s_law_built : Stmt := top 34
abbrev s_law_is_letter : Stmt := top 35
abbrev s_law_odd : Stmt := top 36
abbrev s_law_part : Stmt := top 37
abbrev s_law_due : Stmt := top 38
abbrev s_law_called : Stmt := top 39
abbrev s_law_is_same : Stmt := top 40
abbrev s_law_are_same : Stmt := top 41
abbrev s_law_right : Stmt := top 42
abbrev s_law_atom_right : Stmt := top 43
abbrev s_law : Stmt := top 44
end HH
def tst0 (K : Fg) : Bool := decide (PySem.W.nsIn K mainGlobals "len" = some none) && (decide (PySem.W.nsIn K mainGlobals "int" = some none) && (decide (PySem.W.nsIn K mainGlobals "str" = some none) && (decide (PySem.W.nsIn K mainGlobals "range" = some none) && (decide (PySem.W.nsIn K mainGlobals "list" = some none) && (decide (PySem.W.nsIn K mainGlobals "tuple" = some none) && (decide (PySem.W.nsIn K mainGlobals "dict" = some none) && (decide (PySem.W.nsIn K mainGlobals "set" = some none))))))))
def tst1 (K : Fg) : Bool := decide (PySem.W.nsIn K mainGlobals "sorted" = some none) && (decide (PySem.W.nsIn K mainGlobals "isinstance" = some none) && (decide (PySem.W.nsIn K mainGlobals "repr" = some none) && (decide (PySem.W.nsIn K mainGlobals "max" = some none) && (decide (PySem.W.nsIn K mainGlobals "min" = some none) && (decide (PySem.W.nsIn K mainGlobals "sum" = some none) && (decide (PySem.W.nsIn K mainGlobals "all" = some none) && (decide (PySem.W.nsIn K mainGlobals "any" = some none))))))))
def tst2 (K : Fg) : Bool := decide (PySem.W.nsIn K mainGlobals "zip" = some none) && (decide (PySem.W.nsIn K mainGlobals "enumerate" = some none) && (decide (PySem.W.nsIn K mainGlobals "bool" = some none) && (decide (PySem.W.nsIn K mainGlobals "reversed" = some none) && (decide (PySem.W.nsIn K mainGlobals "type" = some none) && (isStrG K "LETTERS" "ABCDEFGHIJKLMNOPQRSTUVWXYZabcdefghijklmnopqrstuvwxyz" && (isStrG K "ATOM" "atom" && (isStrG K "NO" "no")))))))
def tst3 (K : Fg) : Bool := isStrG K "IF" "if" && (isStrG K "ALL" "all" && (decide (PySem.W.nsIn K mainGlobals "PARTS_OF" = some (some (.ref (gA K "PARTS_OF")))) && (isDic K (gA K "PARTS_OF") && (decide (((gA K "PARTS_OF") == sysModules) = false) && (isIntIn K (gA K "PARTS_OF") "atom" 1 && (isIntIn K (gA K "PARTS_OF") "no" 0 && (isIntIn K (gA K "PARTS_OF") "if" 2)))))))
def tst4 (K : Fg) : Bool := isIntIn K (gA K "PARTS_OF") "all" 1 && (isStrG K "ALL_AHEAD" "all " && (isStrG K "BETWEEN" " > " && (decide (PySem.W.nsIn K mainGlobals "Formula" = some (some (.ref (gA K "Formula")))) && (decide (PySem.W.plainGet K (gA K "Formula") Str.empty = true) && (decide (PySem.W.hasDictIn K (gA K "Formula") = true) && (decide (PySem.W.plainOver K (gA K "Formula") = true) && (decide (PySem.W.findIn K (.ref (gA K "Formula")) "__setattr__" = some (some (.builtin "object.__setattr__"))))))))))
def tst5 (K : Fg) : Bool := decide (PySem.W.makesIn K (gA K "Formula") = true) && (decide (PySem.W.keepIn K (.ref (gA K "Formula")) = true) && (decide (PySem.W.findIn K (.ref (gA K "Formula")) "kind" = some none) && (decide (PySem.W.findIn K (.ref (gA K "Formula")) "parts" = some none) && (decide (PySem.W.findIn K (.ref (gA K "Formula")) "many" = some none) && (decide (PySem.W.findIn K (.ref (gA K "Formula")) "deepest" = some none) && (decide (PySem.W.findIn K (.ref (gA K "Formula")) "atoms" = some none) && (decide (PySem.W.findIn K (.ref (gA K "Formula")) "bare" = some none))))))))
def tst6 (K : Fg) : Bool := decide (PySem.W.findIn K (.ref (gA K "Formula")) "spelled" = some none) && (decide (PySem.W.findIn K (.ref (gA K "Formula")) "alls_known" = some none) && (decide (PySem.W.findIn K (.ref (gA K "Formula")) "__class__" = some (some (.builtin "object.__class__"))) && (decide (PySem.W.specialIn K (.builtin "object.__class__") "__get__" = some (some (.builtin "getset_descriptor.__get__"))) && (decide (PySem.W.takesIn K (.builtin "object.__class__") = some true) && (decide (PySem.W.mroIn K (gA K "Formula") (.type "object") = some true) && (decide (PySem.W.kitOne K (.ref (gA K "Formula")) (.ref (gA K "Formula")) = some true) && (decide (PySem.W.selfFirst K (gA K "Formula") = true))))))))
def tst7 (K : Fg) : Bool := decide (PySem.W.kitOne K (.type "str") (.ref (gA K "Formula")) = some false) && (decide (PySem.W.findIn K (.ref (gA K "Formula")) "__ne__" = some (some (.builtin "object.__ne__"))) && (decide (PySem.W.kitOne K (.type "NoneType") (.ref (gA K "Formula")) = some false) && (decide (PySem.W.kitOne K (.type "bool") (.ref (gA K "Formula")) = some false) && (decide (PySem.W.kitOne K (.type "int") (.ref (gA K "Formula")) = some false) && (decide (PySem.W.kitOne K (.type "tuple") (.ref (gA K "Formula")) = some false) && (decide (PySem.W.kitOne K (.type "list") (.ref (gA K "Formula")) = some false) && (decide (PySem.W.kitOne K (.type "dict") (.ref (gA K "Formula")) = some false))))))))
def tst8 (K : Fg) : Bool := decide (PySem.W.nsIn K mainGlobals "BadFormula" = some (some (.ref (gA K "BadFormula")))) && (isExc K (gA K "BadFormula") (gA K "WebError") && (decide (PySem.W.findIn K (.ref (gA K "BadFormula")) "__setattr__" = some (some (.builtin "object.__setattr__"))) && (decide (PySem.W.subIn K (.ref (gA K "BadFormula")) (.type "BaseException") = some true) && (decide (PySem.W.typeIn K (.ref (gA K "BadFormula")) = some (.type "type")) && (decide (PySem.W.keepIn K (.ref (gA K "BadFormula")) = true) && (decide (PySem.W.findIn K (.ref (gA K "BadFormula")) "__getattribute__" = some (some (.builtin "BaseException.__getattribute__"))) && (decide (PySem.W.findIn K (.ref (gA K "BadFormula")) "__getattr__" = some none))))))))
def tst9 (K : Fg) : Bool := decide (PySem.W.hasDictIn K (gA K "BadFormula") = true) && (decide (PySem.W.findIn K (.ref (gA K "BadFormula")) "value" = some none) && (decide (PySem.W.kitOne K (.ref (gA K "BadFormula")) (.ref (gA K "BadFormula")) = some true) && (decide (PySem.W.kitOne K (.ref (gA K "Formula")) (.type "str") = some false) && (decide (PySem.W.findIn K (.ref (gA K "BadFormula")) "__class__" = some (some (.builtin "object.__class__"))) && (decide (PySem.W.specialIn K (.builtin "object.__class__") "__get__" = some (some (.builtin "getset_descriptor.__get__"))) && (decide (PySem.W.takesIn K (.builtin "object.__class__") = some true) && (decide (PySem.W.mroIn K (gA K "BadFormula") (.type "object") = some true))))))))
def tst10 (K : Fg) : Bool := decide (PySem.W.exmOne K (.ref (gA K "BadFormula")) (.ref (gA K "BadFormula")) = some true) && (decide (kdNo K (gA K "PARTS_OF") ["not", "If", "", "ab", "1", " ", "(", "all a"] = true) && (decide (PySem.W.notFirst K (gA K "Formula") (.type "str") = true) && (decide (PySem.W.notFirst K (gA K "Formula") (.type "int") = true) && (decide (PySem.W.notFirst K (gA K "Formula") (.type "bool") = true) && (decide (PySem.W.notFirst K (gA K "Formula") (.type "NoneType") = true) && (decide (PySem.W.notFirst K (gA K "Formula") (.type "tuple") = true) && (decide (PySem.W.notFirst K (gA K "Formula") (.type "list") = true))))))))
def tst11 (K : Fg) : Bool := decide (PySem.W.notFirst K (gA K "Formula") (.type "dict") = true) && (decide (PySem.W.nsIn K mainGlobals "WebError" = some (some (.ref (gA K "WebError")))) && (decide (PySem.W.readsIn K (gA K "WebError") (.type "type") = true) && (decide (PySem.W.specialIn K (.ref (gA K "WebError")) "__getattribute__" = some (some (.builtin "type.__getattribute__"))) && (isVal K (gA K "WebError") "__init__" (.builtin "Exception.__init__") && (decide (PySem.W.findIn K (.ref (gA K "BadFormula")) "__init__" = some (some (.ref (mA K "BadFormula" "__init__")))) && (decide (PySem.W.typeIn K (.ref (mA K "BadFormula" "__init__")) = some (.type "function")) && (decide (PySem.W.nsIn K mainGlobals "united" = some (some (.ref (gA K "united")))))))))))
def tst12 (K : Fg) : Bool := decide (PySem.W.nsIn K mainGlobals "merged" = some (some (.ref (gA K "merged")))) && (decide (PySem.W.nsIn K mainGlobals "is_atom" = some (some (.ref (gA K "is_atom")))) && (decide (PySem.W.findIn K (.ref (gA K "Formula")) "__init__" = some (some (.ref (mA K "Formula" "__init__")))) && (decide (PySem.W.isFn K (.ref (mA K "Formula" "__init__")) = true) && (decide (PySem.W.keepIn K (.ref (mA K "Formula" "__init__")) = true) && (decide (PySem.W.findIn K (.ref (gA K "Formula")) "__init__" = some (some (.ref (mA K "Formula" "__init__")))) && (decide (PySem.W.isFn K (.ref (mA K "Formula" "__init__")) = true) && (decide (PySem.W.keepIn K (.ref (mA K "Formula" "__init__")) = true))))))))
def tst13 (K : Fg) : Bool := decide (PySem.W.findIn K (.ref (gA K "Formula")) "__eq__" = some (some (.ref (mA K "Formula" "__eq__")))) && (decide (PySem.W.isFn K (.ref (mA K "Formula" "__eq__")) = true) && (decide (PySem.W.keepIn K (.ref (mA K "Formula" "__eq__")) = true) && (decide (PySem.W.nsIn K mainGlobals "atom" = some (some (.ref (gA K "atom")))) && (decide (PySem.W.nsIn K mainGlobals "atom" = some (some (.ref (gA K "atom")))) && (decide (PySem.W.findIn K (.ref (gA K "Formula")) "__str__" = some (some (.ref (mA K "Formula" "__str__")))) && (decide (PySem.W.isFn K (.ref (mA K "Formula" "__str__")) = true) && (decide (PySem.W.keepIn K (.ref (mA K "Formula" "__str__")) = true))))))))
def tst14 (K : Fg) : Bool := decide (PySem.W.nsIn K mainGlobals "_law_deck" = some (some (.ref (gA K "_law_deck")))) && (decide (PySem.W.nsIn K mainGlobals "_law_draw" = some (some (.ref (gA K "_law_draw")))) && (decide (PySem.W.nsIn K mainGlobals "_law_pick" = some (some (.ref (gA K "_law_pick")))) && (decide (PySem.W.nsIn K mainGlobals "_law_form" = some (some (.ref (gA K "_law_form")))) && (decide (PySem.W.nsIn K mainGlobals "_law_text" = some (some (.ref (gA K "_law_text")))) && (decide (PySem.W.nsIn K mainGlobals "_law_built" = some (some (.ref (gA K "_law_built")))) && (decide (PySem.W.nsIn K mainGlobals "_law_is_letter" = some (some (.ref (gA K "_law_is_letter")))) && (decide (PySem.W.nsIn K mainGlobals "_law_odd" = some (some (.ref (gA K "_law_odd")))))))))))
def tst15 (K : Fg) : Bool := decide (PySem.W.nsIn K mainGlobals "_law_part" = some (some (.ref (gA K "_law_part")))) && (decide (PySem.W.nsIn K mainGlobals "_law_due" = some (some (.ref (gA K "_law_due")))) && (decide (PySem.W.nsIn K mainGlobals "_law_called" = some (some (.ref (gA K "_law_called")))) && (decide (PySem.W.nsIn K mainGlobals "_law_is_same" = some (some (.ref (gA K "_law_is_same")))) && (decide (PySem.W.nsIn K mainGlobals "_law_are_same" = some (some (.ref (gA K "_law_are_same")))) && (decide (PySem.W.nsIn K mainGlobals "_law_right" = some (some (.ref (gA K "_law_right")))) && (decide (PySem.W.nsIn K mainGlobals "_law_atom_right" = some (some (.ref (gA K "_law_atom_right")))) && (decide (PySem.W.nsIn K mainGlobals "law" = some (some (.ref (gA K "law")))))))))))
def tsts_0 : List (Fg → Bool) := [tst0, tst1, tst2, tst3, tst4, tst5, tst6, tst7, tst8, tst9, tst10, tst11]
def tsts_1 : List (Fg → Bool) := [tst12, tst13, tst14, tst15]
def tsts : List (Fg → Bool) := tsts_0 ++ (tsts_1)
def dT1 : DefT := ⟨fun K => (mA K "BadFormula" "__init__"), "__init__", "BadFormula.__init__", HH.s_BadFormula___init__, false⟩
def dT2 : DefT := ⟨fun K => (gA K "united"), "united", "united", HH.s_united, false⟩
def dT3 : DefT := ⟨fun K => (gA K "merged"), "merged", "merged", HH.s_merged, false⟩
def dT4 : DefT := ⟨fun K => (gA K "is_atom"), "is_atom", "is_atom", HH.s_is_atom, false⟩
def dT5 : DefT := ⟨fun K => (mA K "Formula" "__init__"), "__init__", "Formula.__init__", HH.s_Formula___init__, false⟩
def dT6 : DefT := ⟨fun K => (mA K "Formula" "__init__"), "__init__", "Formula.__init__", HH.s_Formula___init__, false⟩
def dT7 : DefT := ⟨fun K => (mA K "Formula" "__eq__"), "__eq__", "Formula.__eq__", HH.s_Formula___eq__, false⟩
def dT8 : DefT := ⟨fun K => (gA K "atom"), "atom", "atom", HH.s_atom, false⟩
def dT9 : DefT := ⟨fun K => (gA K "atom"), "atom", "atom", HH.s_atom, false⟩
def dT10 : DefT := ⟨fun K => (mA K "Formula" "__str__"), "__str__", "Formula.__str__", HH.s_Formula___str__, false⟩
def dT11 : DefT := ⟨fun K => (gA K "_law_deck"), "_law_deck", "_law_deck", HH.s_law_deck, false⟩
def dT12 : DefT := ⟨fun K => (gA K "_law_draw"), "_law_draw", "_law_draw", HH.s_law_draw, false⟩
def dT13 : DefT := ⟨fun K => (gA K "_law_pick"), "_law_pick", "_law_pick", HH.s_law_pick, false⟩
def dT14 : DefT := ⟨fun K => (gA K "_law_form"), "_law_form", "_law_form", HH.s_law_form, false⟩
def dT15 : DefT := ⟨fun K => (gA K "_law_text"), "_law_text", "_law_text", HH.s_law_text, false⟩
def dT16 : DefT := ⟨fun K => (gA K "_law_built"), "_law_built", "_law_built", HH.s_law_built, false⟩
def dT17 : DefT := ⟨fun K => (gA K "_law_is_letter"), "_law_is_letter", "_law_is_letter", HH.s_law_is_letter, false⟩
def dT18 : DefT := ⟨fun K => (gA K "_law_odd"), "_law_odd", "_law_odd", HH.s_law_odd, false⟩
def dT19 : DefT := ⟨fun K => (gA K "_law_part"), "_law_part", "_law_part", HH.s_law_part, false⟩
def dT20 : DefT := ⟨fun K => (gA K "_law_due"), "_law_due", "_law_due", HH.s_law_due, false⟩
def dT21 : DefT := ⟨fun K => (gA K "_law_called"), "_law_called", "_law_called", HH.s_law_called, false⟩
def dT22 : DefT := ⟨fun K => (gA K "_law_is_same"), "_law_is_same", "_law_is_same", HH.s_law_is_same, false⟩
def dT23 : DefT := ⟨fun K => (gA K "_law_are_same"), "_law_are_same", "_law_are_same", HH.s_law_are_same, false⟩
def dT24 : DefT := ⟨fun K => (gA K "_law_right"), "_law_right", "_law_right", HH.s_law_right, false⟩
def dT25 : DefT := ⟨fun K => (gA K "_law_atom_right"), "_law_atom_right", "_law_atom_right", HH.s_law_atom_right, false⟩
def dT26 : DefT := ⟨fun K => (gA K "law"), "law", "law", HH.s_law, false⟩
def dTs_0 : List DefT := [dT1, dT2, dT3, dT4, dT5, dT6, dT7, dT8, dT9, dT10, dT11, dT12]
def dTs_1 : List DefT := [dT13, dT14, dT15, dT16, dT17, dT18, dT19, dT20, dT21, dT22, dT23, dT24]
def dTs_2 : List DefT := [dT25, dT26]
def dTs : List DefT := dTs_0 ++ (dTs_1 ++ (dTs_2))
def dcs_0 : List DicT := [⟨fun K => (gA K "PARTS_OF"), ["atom", "no", "if", "all"]⟩]
def dcs : List DicT := dcs_0
def names_0 : List PySem.Str := ["_wall", "__name__", "WebError", "BadFormula", "BadText", "LETTERS", "ATOM", "NO", "IF", "ALL", "PARTS_OF", "ALL_AHEAD"]
def names_1 : List PySem.Str := ["BETWEEN", "is_atom", "united", "merged", "Formula", "as_formula", "operand", "both", "either", "atom", "no", "every"]
def names_2 : List PySem.Str := ["place_of_end", "formula_in", "begun_at", "_law_deck", "_law_draw", "_law_pick", "_law_form", "_law_text", "_law_built", "_law_is_letter", "_law_odd", "_law_part"]
def names_3 : List PySem.Str := ["_law_due", "_law_called", "_law_is_same", "_law_are_same", "_law_right", "_law_atom_right"]
def names : List PySem.Str := names_0 ++ (names_1 ++ (names_2 ++ (names_3)))
abbrev RW_ : PySem.W.OpenRow := PySem.W.OpenLaw.row PySem.Challenge.rw_allbeneath_k02_formulas_of_any_parts
abbrev qW : Program := PySem.W.view RW_.prog [44]
abbrev hkW : PySem.W.Hook := hookT tsts dTs dcs
def obW (s : PySem.W.SharedT) : AlT := obT tsts dTs dcs s
theorem obW_eq (s : PySem.W.SharedT) : obW s = hkW.obs s.abs := obT_eq s
theorem run_f (w : World) : HandSHeadRun.RunEq RW_ qW hkW obW 40000 names (w.withFollow "special-get-raises" false) := by
  intro os
  kernel_rfl
theorem run_t (w : World) : HandSHeadRun.RunEq RW_ qW hkW obW 40000 names (w.withFollow "special-get-raises" true) := by
  intro os
  kernel_rfl
theorem run_W : ∀ w : World, HandSHeadRun.RunEq RW_ qW hkW obW 40000 names w := PySem.W.byRow2 "special-get-raises" (P := fun w => HandSHeadRun.RunEq RW_ qW hkW obW 40000 names w) run_f run_t
end N
set_option Elab.async false
set_option linter.all false
set_option maxRecDepth 100000
namespace N
open PySem L2
/-- formulas -/
inductive Fm where
  | at (c : Nat) | no | imp (a b : Fm) | all (a : Fm)
  deriving DecidableEq
/-- plain data -/
inductive D where
  | vl (v : V)
  | tup (l : List D)
  | lst (l : List D)
  | dct (ks : List Key) (l : List D)
  | obj (c : Nat) (ns : List Str) (l : List D)
  | fm (f : Fm)
  | scr (l : List V)
  /-- a dict that is pinned -/
  | dcz (ks : List Key) (l : List D)
  /-- a dict whose keys are tuples -/
  | kdd (w : World) (ks : List D) (l : List D)
  /-- a tuple that is known to have no dict of its own -/
  | tupz (l : List D)
@[reducible] def D.int (i : Int) : D := .vl (.int i)
@[reducible] def D.bl (b : Bool) : D := .vl (.bl b)
@[reducible] def D.str (s : Str) : D := .vl (.str s)
@[reducible] def D.non : D := .vl .non
@[reducible] def D.adr (a : Addr) : D := .vl (.ref a)
mutual
/-- the key that a datum is -/
def nkOf : D → Option NestedKey
  | .vl .non => some .none
  | .vl (.bl b) => some (.num (if b = true then 1 else 0))
  | .vl (.int i) => some (.num i)
  | .vl (.str s) => some (.text s)
  | .vl _ => none
  | .tup l => (nkOfL l).map .tup
  | .lst _ => none
  | .dct _ _ => none
  | .obj _ _ _ => none
  | .fm _ => none
  | .scr _ => none
  | .kdd _ _ _ => none
  | .dcz _ _ => none
  | .tupz _ => none
def nkOfL : List D → Option (List NestedKey)
  | [] => some []
  | d :: l => match nkOf d, nkOfL l with
    | some k, some r => some (k :: r)
    | _, _ => none
end
/-- the module's written part, the classes' places -/
structure Kx where
  K : PySem.W.Frag
  cl : Nat → Addr
/-- what is kept of a formula: filled in by the texts that speak of formulas -/
structure FmKit where
  kind : Fm → Str
  many : Fm → Int
  deep : Fm → Int
  atoms : Fm → Str
  bare : Fm → Str
  spell : Fm → Str
  alls : Fm → List Fm
def AllR (R : Addr → Fm → Prop) : List Addr → List Fm → Prop
  | [], fs => fs = []
  | a :: as, fs => ∃ f r, fs = f :: r ∧ R a f ∧ AllR R as r
theorem AllR.imp {R S : Addr → Fm → Prop} (h : ∀ a f, R a f → S a f) : ∀ {as : List Addr} {fs : List Fm}, AllR R as fs → AllR S as fs
  | [], _, e => e
  | _ :: _, _, ⟨f, r, e, x, t⟩ => ⟨f, r, e, h _ _ x, AllR.imp h t⟩
def PartsR (R : Addr → Fm → Prop) : Fm → List V → Prop
  | .at c, ps => ps = [.str ⟨#[c]⟩]
  | .no, ps => ps = []
  | .imp a b, ps => ∃ p q, ps = [.ref p, .ref q] ∧ R p a ∧ R q b
  | .all a, ps => ∃ p, ps = [.ref p] ∧ R p a
theorem PartsR.imp {R S : Addr → Fm → Prop} (h : ∀ a f, R a f → S a f) : ∀ {f : Fm} {ps : List V}, PartsR R f ps → PartsR S f ps
  | .at _, _, e => e
  | .no, _, e => e
  | .imp _ _, _, ⟨p, q, e, x, y⟩ => ⟨p, q, e, h _ _ x, h _ _ y⟩
  | .all _, _, ⟨p, e, x⟩ => ⟨p, e, h _ _ x⟩
section
variable (F : FmKit) (T : Kx)
def fmNames : List Str := ["kind", "parts", "many", "deepest", "atoms", "bare", "spelled", "alls_known"]
def fmFields (f : Fm) (pa al : Addr) : List (Str × V) :=
  [("kind", .str (F.kind f)), ("parts", .ref pa), ("many", .int (F.many f)), ("deepest", .int (F.deep f)), ("atoms", .str (F.atoms f)), ("bare", .str (F.bare f)), ("spelled", .str (F.spell f)), ("alls_known", .ref al)]
def FStep (H : Hp) (R : Addr → Fm → Prop) (a : Addr) (f : Fm) : Prop :=
  ∃ dx pa ps al as, H a = some (.ins (T.cl 0) dx (fmFields F f pa al)) ∧ SqT T.K H pa ps ∧ PartsR R f ps ∧ SqT T.K H al (as.map V.ref) ∧ AllR R as (F.alls f)
def FormAt (H : Hp) (a : Addr) (f : Fm) : Prop := ∃ R : Addr → Fm → Prop, (∀ b g, R b g → FStep F T H R b g) ∧ R a f
end
theorem Same.sqT {K : PySem.W.Frag} {H H' : Hp} {a : Addr} {xs : List V} (e : Same H H') (h : SqT K H a xs) : SqT K H' a xs := by
  rcases h with (h | ⟨o, h⟩) | h
  · exact .inl (.inl (e _ _ h))
  · exact .inl (.inr ⟨o, e _ _ h⟩)
  · exact .inr h
section
variable {F : FmKit} {T : Kx} {H H' : Hp} {R S : Addr → Fm → Prop} {a : Addr} {f : Fm}
theorem FStep.imp (h : ∀ a f, R a f → S a f) (e : Same H H') (x : FStep F T H R a f) : FStep F T H' S a f := by
  obtain ⟨dx, pa, ps, al, as, h1, h2, h3, h4, h5⟩ := x
  exact ⟨dx, pa, ps, al, as, e _ _ h1, Same.sqT e h2, h3.imp h, Same.sqT e h4, h5.imp h⟩
theorem FormAt.mono (e : Same H H') (x : FormAt F T H a f) : FormAt F T H' a f := by
  obtain ⟨R, h, r⟩ := x
  exact ⟨R, fun b g y => (h b g y).imp (fun _ _ z => z) e, r⟩
theorem FormAt.out (x : FormAt F T H a f) : FStep F T H (FormAt F T H) a f := by
  obtain ⟨R, h, r⟩ := x
  exact (h a f r).imp (fun b g y => ⟨R, h, y⟩) (Same.refl _)
theorem FormAt.mk (x : FStep F T H (fun b g => FormAt F T H b g ∨ (b = a ∧ g = f)) a f) : FormAt F T H a f := by
  refine ⟨fun b g => FormAt F T H b g ∨ (b = a ∧ g = f), fun b g y => ?_, .inr ⟨rfl, rfl⟩⟩
  rcases y with y | ⟨rfl, rfl⟩
  · exact y.out.imp (fun _ _ z => .inl z) (Same.refl _)
  · exact x
end
/-- a dict whose keys are nested tuples: its cell alone -/
def NkRaw (w : World) (h : Heap) (p : Addr) (as : List (NestedKey × Addr × V)) : Prop := ∃ (o : Obj) (es : Array DictEntry) (ep : Nat) (us : List (NestedKey × Addr × Value)),
  (p == sysModules) = false ∧ h.get? p = some o ∧ o.ExactDict ∧ o.data = .dict es ep ∧ es.toList = us.map (fun x => (⟨x.1.hash w, .ref x.2.1, x.2.2⟩ : DictEntry)) ∧ Paired (fun (a : NestedKey × Addr × V) (u : NestedKey × Addr × Value) => a.1 = u.1 ∧ a.2.1 = u.2.1 ∧ RelV a.2.2 u.2.2) as us
def NkO (w : World) (p : Addr) (as : List (NestedKey × Addr × V)) : HO := .ext fun h => NkRaw w h p as
mutual
/-- the value is such a key -/
def NkV (K : PySem.W.Frag) (H : Hp) : NestedKey → V → Prop
  | .none, v => v = .non
  | .num i, v => v = .int i ∨ ∃ b : Bool, v = .bl b ∧ i = if b = true then 1 else 0
  | .text s, v => v = .str s
  | .tup ks, v => ∃ a xs, v = .ref a ∧ SqT K H a xs ∧ NkL K H ks xs
def NkL (K : PySem.W.Frag) (H : Hp) : List NestedKey → List V → Prop
  | [], vs => vs = []
  | k :: ks, vs => ∃ v r, vs = v :: r ∧ NkV K H k v ∧ NkL K H ks r
end
mutual
theorem NkV.mono {K : PySem.W.Frag} {H H' : Hp} (e : Same H H') : ∀ (k : NestedKey) (v : V), NkV K H k v → NkV K H' k v
  | .none, _, h => h
  | .num _, _, h => h
  | .text _, _, h => h
  | .tup ks, _, ⟨a, xs, h1, h2, h3⟩ => ⟨a, xs, h1, Same.sqT e h2, NkL.mono e ks xs h3⟩
theorem NkL.mono {K : PySem.W.Frag} {H H' : Hp} (e : Same H H') : ∀ (ks : List NestedKey) (vs : List V), NkL K H ks vs → NkL K H' ks vs
  | [], _, h => h
  | k :: ks, _, ⟨v, r, h1, h2, h3⟩ => ⟨v, r, h1, NkV.mono e k v h2, NkL.mono e ks r h3⟩
end
section
variable (F : FmKit) (T : Kx) (H : Hp)
mutual
def Den : D → V → Prop
  | .vl w, v => v = w
  | .tup l, v => ∃ a xs, v = .ref a ∧ SqT T.K H a xs ∧ DenL l xs
  | .lst l, v => ∃ a xs, v = .ref a ∧ H a = some (.lst xs) ∧ DenL l xs
  | .dct ks l, v => ∃ a kvs, v = .ref a ∧ H a = some (.dK kvs) ∧ kvs.map (·.1) = ks ∧ ks.Nodup ∧ DenL l (kvs.map (·.2))
  | .dcz ks l, v => ∃ a o kvs, v = .ref a ∧ H a = some (.frz o (.dK kvs)) ∧ kvs.map (·.1) = ks ∧ ks.Nodup ∧ DenL l (kvs.map (·.2))
  | .obj c ns l, v => ∃ a dx fs, v = .ref a ∧ H a = some (.ins (T.cl c) dx fs) ∧ fs.map (·.1) = ns ∧ DenL l (fs.map (·.2))
  | .fm f, v => ∃ a, v = .ref a ∧ FormAt F T H a f
  | .scr l, v => ∃ a, v = .ref a ∧ SqL T.K H a l
  | .kdd w ks l, v => ∃ a o as, v = .ref a ∧ H a = some (.frz o (NkO w a as)) ∧ (as.map fun z => some z.1) = ks.map nkOf ∧ (as.map (·.1)).Nodup ∧ (∀ z ∈ as, NkV T.K H z.1 (.ref z.2.1) ∧ z.1.depth ≤ 8) ∧ DenL ks (as.map fun z => .ref z.2.1) ∧ DenL l (as.map (·.2.2))
  | .tupz l, v => ∃ a xs o, v = .ref a ∧ H a = some (.frz o (.tup xs)) ∧ o.dict = none ∧ DenL l xs
def DenL : List D → List V → Prop
  | [], vs => vs = []
  | d :: l, vs => ∃ v r, vs = v :: r ∧ Den d v ∧ DenL l r
end
end
section
variable {F : FmKit} {T : Kx} {H H' : Hp}
mutual
theorem Den.mono (e : Same H H') : ∀ (d : D) (v : V), Den F T H d v → Den F T H' d v
  | .vl _, _, h => h
  | .tup l, _, ⟨a, xs, h1, h2, h3⟩ => ⟨a, xs, h1, Same.sqT e h2, DenL.mono e l xs h3⟩
  | .lst l, _, ⟨a, xs, h1, h2, h3⟩ => ⟨a, xs, h1, e _ _ h2, DenL.mono e l xs h3⟩
  | .dct ks l, _, ⟨a, kvs, h1, h2, h3, h4, h5⟩ => ⟨a, kvs, h1, e _ _ h2, h3, h4, DenL.mono e l _ h5⟩
  | .dcz ks l, _, ⟨a, o, kvs, h1, h2, h3, h4, h5⟩ => ⟨a, o, kvs, h1, e _ _ h2, h3, h4, DenL.mono e l _ h5⟩
  | .obj c ns l, _, ⟨a, dx, fs, h1, h2, h3, h4⟩ => ⟨a, dx, fs, h1, e _ _ h2, h3, DenL.mono e l _ h4⟩
  | .fm f, _, ⟨a, h1, h2⟩ => ⟨a, h1, h2.mono e⟩
  | .scr l, _, ⟨a, h1, h2⟩ => ⟨a, h1, e.seq h2⟩
  | .kdd w ks l, _, ⟨a, o, as, h1, h2, h3, h4, h5, h6, h7⟩ => ⟨a, o, as, h1, e _ _ h2, h3, h4, fun z hz => ⟨NkV.mono e _ _ (h5 z hz).1, (h5 z hz).2⟩, DenL.mono e ks _ h6, DenL.mono e l _ h7⟩
  | .tupz l, _, ⟨a, xs, o, h1, h2, h3, h4⟩ => ⟨a, xs, o, h1, e _ _ h2, h3, DenL.mono e l xs h4⟩
theorem DenL.mono (e : Same H H') : ∀ (l : List D) (vs : List V), DenL F T H l vs → DenL F T H' l vs
  | [], _, h => h
  | d :: l, _, ⟨v, r, h1, h2, h3⟩ => ⟨v, r, h1, Den.mono e d v h2, DenL.mono e l r h3⟩
end
theorem DenL.len : ∀ {l : List D} {vs : List V}, DenL F T H l vs → vs.length = l.length
  | [], _, h => by
    have h : _ = [] := h
    rw [h]
    rfl
  | d :: l, _, ⟨v, r, h1, _, h3⟩ => by
    rw [h1, List.length_cons, List.length_cons, DenL.len h3]
theorem DenL.get : ∀ {l : List D} {vs : List V} {i : Nat} {d : D}, DenL F T H l vs → l[i]? = some d → ∃ v, vs[i]? = some v ∧ Den F T H d v
  | [], _, i, d, _, e => by simp at e
  | x :: l, _, 0, d, ⟨v, r, h1, h2, _⟩, e => by
    subst h1
    have e : x = d := Option.some.inj e
    subst e
    exact ⟨v, rfl, h2⟩
  | x :: l, _, i + 1, d, ⟨v, r, h1, _, h3⟩, e => by
    subst h1
    exact DenL.get (i := i) (d := d) h3 e
theorem DenL.at : ∀ {l : List D} {vs : List V} {i : Nat} {v : V}, DenL F T H l vs → vs[i]? = some v → ∃ d, l[i]? = some d ∧ Den F T H d v
  | [], _, i, v, h, e => by
    have h : _ = [] := h
    rw [h] at e
    simp at e
  | x :: l, _, 0, v, ⟨u, r, h1, h2, _⟩, e => by
    subst h1
    have e : u = v := Option.some.inj e
    subst e
    exact ⟨x, rfl, h2⟩
  | x :: l, _, i + 1, v, ⟨u, r, h1, _, h3⟩, e => by
    subst h1
    exact DenL.at (i := i) (v := v) h3 e
theorem DenL.app : ∀ {l m : List D} {vs us : List V}, DenL F T H l vs → DenL F T H m us → DenL F T H (l ++ m) (vs ++ us)
  | [], m, _, us, h, k => by
    have h : _ = [] := h
    subst h
    exact k
  | d :: l, m, _, us, ⟨v, r, h1, h2, h3⟩, k => by
    subst h1
    exact ⟨v, r ++ us, rfl, h2, DenL.app h3 k⟩
theorem DenL.app_inv : ∀ {l m : List D} {vs : List V}, DenL F T H (l ++ m) vs → ∃ us ws, vs = us ++ ws ∧ DenL F T H l us ∧ DenL F T H m ws
  | [], m, vs, h => ⟨[], vs, rfl, rfl, h⟩
  | d :: l, m, _, ⟨v, r, h1, h2, h3⟩ => by
    obtain ⟨us, ws, e, p, q⟩ := DenL.app_inv (l := l) h3
    exact ⟨v :: us, ws, by rw [h1, e] <;> rfl, ⟨v, us, rfl, h2, p⟩, q⟩
theorem DenL.set : ∀ {l : List D} {vs : List V} {i : Nat} {d : D} {v : V}, DenL F T H l vs → Den F T H d v → DenL F T H (l.set i d) (vs.set i v)
  | [], _, i, d, v, h, _ => by
    have h : _ = [] := h
    subst h
    rfl
  | x :: l, _, 0, d, v, ⟨u, r, h1, _, h3⟩, k => by
    subst h1
    exact ⟨v, r, rfl, k, h3⟩
  | x :: l, _, i + 1, d, v, ⟨u, r, h1, h2, h3⟩, k => by
    subst h1
    exact ⟨u, r.set i v, rfl, h2, DenL.set h3 k⟩
theorem DenL.one {d : D} {v : V} (h : Den F T H d v) : DenL F T H [d] [v] := ⟨v, [], rfl, h, rfl⟩
theorem DenL.vls (vs : List V) : DenL F T H (vs.map D.vl) vs := by
  induction vs with
  | nil => rfl
  | cons v r ih => exact ⟨v, r, rfl, rfl, ih⟩
theorem DenL.vls_inv : ∀ {ws vs : List V}, DenL F T H (ws.map D.vl) vs → vs = ws
  | [], _, h => h
  | w :: ws, _, ⟨v, r, h1, h2, h3⟩ => by
    have h2 : v = w := h2
    rw [h1, h2, DenL.vls_inv (ws := ws) h3]
theorem DenL.reverse : ∀ {l : List D} {vs : List V}, DenL F T H l vs → DenL F T H l.reverse vs.reverse
  | [], _, h => by
    have h : _ = [] := h
    subst h
    rfl
  | d :: l, _, ⟨v, r, h1, h2, h3⟩ => by
    subst h1
    rw [List.reverse_cons, List.reverse_cons]
    exact (DenL.reverse h3).app (DenL.one h2)
theorem DenL.take : ∀ {l : List D} {vs : List V} (n : Nat), DenL F T H l vs → DenL F T H (l.take n) (vs.take n)
  | l, vs, 0, _ => by
    rw [List.take_zero, List.take_zero]
    rfl
  | [], _, n + 1, h => by
    have h : _ = [] := h
    subst h
    rfl
  | d :: l, _, n + 1, ⟨v, r, h1, h2, h3⟩ => by
    subst h1
    exact ⟨v, r.take n, rfl, h2, DenL.take n h3⟩
theorem DenL.drop : ∀ {l : List D} {vs : List V} (n : Nat), DenL F T H l vs → DenL F T H (l.drop n) (vs.drop n)
  | l, vs, 0, h => h
  | [], _, n + 1, h => by
    have h : _ = [] := h
    subst h
    rfl
  | d :: l, _, n + 1, ⟨v, r, h1, h2, h3⟩ => by
    subst h1
    exact DenL.drop n h3
end
def ov (O H : Hp) : Hp := fun b => match O b with | some o => some o | none => H b
def Dis (O H : Hp) : Prop := ∀ b o, O b = some o → H b = none
section
variable {O O' H H' : Hp} {a b : Addr} {o u : HO}
theorem ov_own (h : O b = some o) : ov O H b = some o := by
  unfold ov
  rw [h]
theorem ov_fro (h : O b = none) : ov O H b = H b := by
  unfold ov
  rw [h]
theorem ov_none (h : ov O H b = none) : O b = none ∧ H b = none := by
  unfold ov at h
  cases e : O b with
  | none =>
    rw [e] at h
    exact ⟨rfl, h⟩
  | some o =>
    rw [e] at h
    cases h
theorem Dis.same (d : Dis O H) : Same H (ov O H) := fun b o h => by
  cases e : O b with
  | none => rw [ov_fro e, h]
  | some x =>
    rw [d b x e] at h
    cases h
theorem Dis.fro (d : Dis O H) (h : H a = some o) : O a = none := by
  cases e : O a with
  | none => rfl
  | some x =>
    rw [d a x e] at h
    cases h
theorem ov_updH (h : O a = none) : upd (ov O H) a o = ov O (upd H a o) := by
  funext b
  by_cases e : b = a
  · subst e
    rw [upd_same, ov_fro h, upd_same]
  · rw [upd_ne e]
    unfold ov
    rw [upd_ne e]
theorem ov_updO : upd (ov O H) a o = ov (upd O a o) H := by
  funext b
  by_cases e : b = a
  · subst e
    rw [upd_same, ov_own upd_same]
  · rw [upd_ne e]
    unfold ov
    rw [upd_ne e]
theorem Dis.updH (d : Dis O H) (h : O a = none) : Dis O (upd H a o) := fun b x e => by
  have n : b ≠ a := fun q => by
    subst q
    rw [h] at e
    cases e
  rw [upd_ne n]
  exact d b x e
theorem Dis.updO (d : Dis O H) (h : H a = none) : Dis (upd O a o) H := fun b x e => by
  by_cases q : b = a
  · subst q
    exact h
  · rw [upd_ne q] at e
    exact d b x e
theorem same_upd (h : H a = none) : Same H (upd H a o) := fun b x e => by
  rw [upd_ne (ne_of_none e h)]
  exact e
/-- a cell taken out -/
def del (O : Hp) (a : Addr) : Hp := fun b => if b = a then none else O b
theorem del_same : del O a a = none := by
  unfold del
  rw [if_pos rfl]
theorem del_ne (h : b ≠ a) : del O a b = O b := by
  unfold del
  rw [if_neg h]
theorem ov_freeze (h : O a = some o) : ov O H = ov (del O a) (upd H a o) := by
  funext b
  by_cases e : b = a
  · subst e
    rw [ov_own h, ov_fro del_same, upd_same]
  · unfold ov
    rw [del_ne e, upd_ne e]
theorem Dis.freeze (d : Dis O H) : Dis (del O a) (upd H a o) := fun b x e => by
  by_cases q : b = a
  · subst q
    rw [del_same] at e
    cases e
  · rw [del_ne q] at e
    rw [upd_ne q]
    exact d b x e
/-- everything but what is in the way stays behind -/
def minus (H C : Hp) : Hp := fun b => match C b with | some _ => none | none => H b
theorem ov_minus (h : Same O H) : ov O (minus H O) = H := by
  funext b
  unfold ov minus
  cases e : O b with
  | none => rfl
  | some o => exact (h b o e).symm
theorem dis_minus : Dis O (minus H O) := fun b o e => by
  unfold minus
  rw [e]
end
end N
set_option Elab.async false
set_option linter.all false
set_option maxRecDepth 100000
namespace N
open PySem L2
/-- what an owned cell holds -/
inductive OD where
  | lst (l : List D)
  | dct (ks : List Key) (l : List D)
  | ins (c : Nat) (ns : List Str) (l : List D)
  | any (o : HO)
  | lk (z : Obj) (kvs : List (Key × V)) (ks : List Key) (l : List D)
  | nk (w : World) (p : Addr) (ks : List (NestedKey × D))
  | kd (w : World) (p : Addr) (ps : List (D × D))
  | xd (ns : List Str) (l : List D)
abbrev Gm := List (Option D)
abbrev Om := List (Addr × OD)
def akeys (W : Om) : List Addr := W.map (·.1)
section
variable (F : FmKit) (T : Kx)
def OdAt (H : Hp) (x : Option HO) : OD → Prop
  | .lst l => ∃ xs, x = some (.lst xs) ∧ DenL F T H l xs
  | .dct ks l => ∃ kvs, x = some (.dK kvs) ∧ kvs.map (·.1) = ks ∧ ks.Nodup ∧ DenL F T H l (kvs.map (·.2))
  | .ins c ns l => ∃ dx fs, x = some (.ins (T.cl c) dx fs) ∧ fs.map (·.1) = ns ∧ DenL F T H l (fs.map (·.2))
  | .any o => x = some o
  | .lk z kvs ks l => x = some (.frz z (.dK kvs)) ∧ kvs.map (·.1) = ks ∧ ks.Nodup ∧ DenL F T H l (kvs.map (·.2))
  | .nk w p ks => ∃ as, x = some (NkO w p as) ∧ as.map (·.1) = ks.map (·.1) ∧ (ks.map (·.1)).Nodup ∧ (∀ z ∈ as, NkV T.K H z.1 (.ref z.2.1) ∧ z.1.depth ≤ 8) ∧ DenL F T H (ks.map (·.2)) (as.map (·.2.2))
  | .kd w p ps => ∃ as, x = some (NkO w p as) ∧ (as.map fun z => some z.1) = ps.map (fun z => nkOf z.1) ∧ (as.map (·.1)).Nodup ∧ (∀ z ∈ as, NkV T.K H z.1 (.ref z.2.1) ∧ z.1.depth ≤ 8) ∧ DenL F T H (ps.map (·.1)) (as.map fun z => .ref z.2.1) ∧ DenL F T H (ps.map (·.2)) (as.map (·.2.2))
  | .xd ns l => ∃ fs, x = some (.xd fs) ∧ fs.map (·.1) = ns ∧ DenL F T H l (fs.map (·.2))
/-- the slots -/
structure Lo (H : Hp) (G : Gm) (σ : St) : Prop where
  len : σ.length = G.length
  at_ : ∀ (i : Nat) (d : D), G[i]? = some (some d) → ∃ v, σ[i]? = some (some v) ∧ Den F T H d v
structure Ow (H C O : Hp) (W : Om) : Prop where
  nd : (akeys W).Nodup
  at_ : ∀ a od, (a, od) ∈ W → C a = none ∧ OdAt F T H (O a) od
/-- frozen H, owned O (the callers' part C of it), slots, owned cells -/
structure Wd (C : Hp) (G : Gm) (W : Om) (H O : Hp) (σ : St) : Prop where
  dis : Dis O H
  oc : Same C O
  loc : Lo F T H G σ
  own : Ow F T H C O W
/-- behind a step -/
structure Nx (C : Hp) (W : Om) (H H' O' : Hp) : Prop where
  ext : Same H H'
  dis : Dis O' H'
  oc : Same C O'
  own : Ow F T H' C O' W
end
section
variable {F : FmKit} {T : Kx} {H H' H1 C O O' : Hp} {G : Gm} {W W' : Om} {σ : St}
theorem OdAt.mono {x : Option HO} (e : Same H H') : ∀ {od : OD}, OdAt F T H x od → OdAt F T H' x od
  | .lst l, ⟨xs, h, k⟩ => ⟨xs, h, k.mono e⟩
  | .dct ks l, ⟨kvs, h, n, d, k⟩ => ⟨kvs, h, n, d, k.mono e⟩
  | .ins c ns l, ⟨dx, fs, h, n, k⟩ => ⟨dx, fs, h, n, k.mono e⟩
  | .any o, h => h
  | .lk z kvs ks l, ⟨h, n, d, k⟩ => ⟨h, n, d, k.mono e⟩
  | .nk w p ks, ⟨as, h, n, d, k, q⟩ => ⟨as, h, n, d, fun z hz => ⟨NkV.mono e _ _ (k z hz).1, (k z hz).2⟩, q.mono e⟩
  | .kd w p ps, ⟨as, h, n, d, k, q, r⟩ => ⟨as, h, n, d, fun z hz => ⟨NkV.mono e _ _ (k z hz).1, (k z hz).2⟩, q.mono e, r.mono e⟩
  | .xd ns l, ⟨fs, h, n, k⟩ => ⟨fs, h, n, k.mono e⟩
theorem OdAt.some {x : Option HO} : ∀ {od : OD}, OdAt F T H x od → ∃ o, x = some o
  | .lst l, ⟨xs, h, k⟩ => ⟨_, h⟩
  | .dct ks l, ⟨kvs, h, n, d, k⟩ => ⟨_, h⟩
  | .ins c ns l, ⟨dx, fs, h, n, k⟩ => ⟨_, h⟩
  | .any o, h => ⟨_, h⟩
  | .lk z kvs ks l, ⟨h, n, d, k⟩ => ⟨_, h⟩
  | .nk w p ks, ⟨as, h, _⟩ => ⟨_, h⟩
  | .kd w p ps, ⟨as, h, _⟩ => ⟨_, h⟩
  | .xd ns l, ⟨fs, h, n, k⟩ => ⟨_, h⟩
theorem Lo.mono (e : Same H H') (l : Lo F T H G σ) : Lo F T H' G σ :=
  ⟨l.len, fun i d h => let ⟨v, a, b⟩ := l.at_ i d h; ⟨v, a, b.mono e⟩⟩
theorem Lo.set {i : Nat} {d : D} {v : V} (l : Lo F T H G σ) (h : Den F T H d v) : Lo F T H (G.set i (some d)) (σ.set i (some v)) := by
  refine ⟨by rw [List.length_set, List.length_set]; exact l.len, fun j d' e => ?_⟩
  by_cases q : i = j
  · subst q
    have hi : i < G.length := by
      have := (List.getElem?_eq_some_iff.mp e).1
      rwa [List.length_set] at this
    rw [List.getElem?_set_self hi] at e
    have e : d = d' := Option.some.inj (Option.some.inj e)
    subst e
    exact ⟨v, by rw [List.getElem?_set_self (by rw [l.len]; exact hi)], h⟩
  · rw [List.getElem?_set_ne q] at e
    rw [List.getElem?_set_ne q]
    exact l.at_ j d' e
theorem Lo.forget {i : Nat} (l : Lo F T H G σ) (x : Option V) : Lo F T H (G.set i none) (σ.set i x) := by
  refine ⟨by rw [List.length_set, List.length_set]; exact l.len, fun j d' e => ?_⟩
  by_cases q : i = j
  · subst q
    have hi : i < G.length := by
      have := (List.getElem?_eq_some_iff.mp e).1
      rwa [List.length_set] at this
    rw [List.getElem?_set_self hi] at e
    cases e
  · rw [List.getElem?_set_ne q] at e
    rw [List.getElem?_set_ne q]
    exact l.at_ j d' e
theorem Ow.mono (e : Same H H') (o : Ow F T H C O W) : Ow F T H' C O W := ⟨o.nd, fun a od h => ⟨(o.at_ a od h).1, (o.at_ a od h).2.mono e⟩⟩
theorem Ow.notin {a : Addr} (o : Ow F T H C O W) (h : O a = none) : a ∉ akeys W := fun z => by
  obtain ⟨p, hp, e⟩ := List.mem_map.mp z
  obtain ⟨x, q⟩ := (o.at_ p.1 p.2 hp).2.some
  rw [e, h] at q
  cases q
theorem Nx.refl (d : Dis O H) (oc : Same C O) (o : Ow F T H C O W) : Nx F T C W H H O := ⟨Same.refl _, d, oc, o⟩
theorem Wd.nx (w : Wd F T C G W H O σ) : Nx F T C W H H O := ⟨Same.refl _, w.dis, w.oc, w.own⟩
theorem Nx.trans (a : Nx F T C W H H1 O) (b : Nx F T C W' H1 H' O') : Nx F T C W' H H' O' := ⟨a.ext.trans b.ext, b.dis, b.oc, b.own⟩
theorem Wd.step (w : Wd F T C G W H O σ) (n : Nx F T C W' H H' O') : Wd F T C G W' H' O' σ := ⟨n.dis, n.oc, w.loc.mono n.ext, n.own⟩
end
section
variable (F : FmKit) (T : Kx)
/-- te, at the slots G and the owned cells W, gives a d and leaves owned cells so that R -/
def Ev (te : TE) (G : Gm) (W : Om) (R : D → Om → Prop) : Prop :=
  ∀ (C H O : Hp) (σ : St), Wd F T C G W H O σ → ∀ Q : VK, (∀ d W' H' O' v, R d W' → Nx F T C W' H H' O' → Den F T H' d v → Q v (ov O' H')) → te σ (ov O H) Q
def EvT (t : TT) (G : Gm) (W : Om) (R : Bool → Om → Prop) : Prop :=
  ∀ (C H O : Hp) (σ : St), Wd F T C G W H O σ → ∀ Q : Bool → Hp → Prop, (∀ b W' H' O', R b W' → Nx F T C W' H H' O' → Q b (ov O' H')) → t σ (ov O H) Q
def EvA (ta : TA) (G : Gm) (W : Om) (R : List D → Om → Prop) : Prop :=
  ∀ (C H O : Hp) (σ : St), Wd F T C G W H O σ → ∀ Q : List V → Hp → Prop, (∀ ds W' H' O' vs, R ds W' → Nx F T C W' H H' O' → DenL F T H' ds vs → Q vs (ov O' H')) → ta σ (ov O H) Q
def EvO (to : TO) (G : Gm) (W : Om) (R : Option Int → Om → Prop) : Prop :=
  ∀ (C H O : Hp) (σ : St), Wd F T C G W H O σ → ∀ Q : Option Int → Hp → Prop, (∀ i W' H' O', R i W' → Nx F T C W' H H' O' → Q i (ov O' H')) → to σ (ov O H) Q
/-- an operation on two data -/
def Bo (r : R2) (d1 d2 : D) (W : Om) (R : D → Om → Prop) : Prop :=
  ∀ (C H O : Hp), Dis O H → Same C O → Ow F T H C O W → ∀ x y, Den F T H d1 x → Den F T H d2 y → ∀ Q : VK, (∀ d W' H' O' v, R d W' → Nx F T C W' H H' O' → Den F T H' d v → Q v (ov O' H')) → r x y (ov O H) Q
/-- a call on data -/
def Ca (r : List V → Hp → VK → Prop) (ds : List D) (W : Om) (R : D → Om → Prop) : Prop :=
  ∀ (C H O : Hp), Dis O H → Same C O → Ow F T H C O W → ∀ vs, DenL F T H ds vs → ∀ Q : VK, (∀ d W' H' O' v, R d W' → Nx F T C W' H H' O' → Den F T H' d v → Q v (ov O' H')) → r vs (ov O H) Q
structure En where
  nx : Gm → Om → Prop
  rt : D → Om → Prop
  bk : Gm → Om → Prop := fun _ _ => False
  ct : Gm → Om → Prop := fun _ _ => False
/-- the ends at heaps are met by the ends at data -/
structure EnOk (C H : Hp) (E : En) (B : Ends) : Prop where
  nx : ∀ G W H' O' σ', E.nx G W → Nx F T C W H H' O' → Lo F T H' G σ' → B.nx σ' (ov O' H')
  rt : ∀ d W H' O' v, E.rt d W → Nx F T C W H H' O' → Den F T H' d v → B.rt v (ov O' H')
  bk : ∀ G W H' O' σ', E.bk G W → Nx F T C W H H' O' → Lo F T H' G σ' → B.bk σ' (ov O' H')
  ct : ∀ G W H' O' σ', E.ct G W → Nx F T C W H H' O' → Lo F T H' G σ' → B.ct σ' (ov O' H')
def Sw (ts : TS) (G : Gm) (W : Om) (E : En) : Prop :=
  ∀ (C H O : Hp) (σ : St), Wd F T C G W H O σ → ∀ B : Ends, EnOk F T C H E B → ts B σ (ov O H)
/-- a target of names -/
def Tg (g : TG) (d : D) (G : Gm) (R : Gm → Prop) : Prop :=
  ∀ (H H1 : Hp) (σ : St) (v : V), Lo F T H G σ → Same H H1 → Den F T H d v → ∀ Q : St → Hp → Prop, (∀ G' σ', R G' → Lo F T H G' σ' → Q σ' H1) → g v σ H1 Q
/-- an iterator over data -/
def Wk (J : It) (H0 : Hp) (ds : List D) : Prop :=
  ∀ (i : Nat) (H O : Hp), Same H0 H → Dis O H →
    (∀ d, ds[i]? = some d → J.go i (ov O H) ∧ ∀ x H2, J.yld i (ov O H) x H2 → ∃ H', Same H H' ∧ Dis O H' ∧ H2 = ov O H' ∧ Den F T H' d x) ∧ (i = ds.length → J.stop i (ov O H))
def EvI (wi : TI) (G : Gm) (W : Om) (R : List D → Om → Prop) : Prop :=
  ∀ (C H O : Hp) (σ : St), Wd F T C G W H O σ → ∀ Q : It → Hp → Prop, (∀ J ds W' H' O', R ds W' → Nx F T C W' H H' O' → Wk F T J H' ds → Q J (ov O' H')) → wi σ (ov O H) Q
end
def E_ (post : D → Om → Prop) : En := { nx := fun _ W => post .non W, rt := post }
section
variable {F : FmKit} {T : Kx} {C H H' O O' : Hp} {G : Gm} {W W' : Om} {σ : St} {E E' : En} {B : Ends}
theorem EnOk.up (h : EnOk F T C H E B) (e : Same H H') : EnOk F T C H' E B :=
  ⟨fun G W H2 O' σ' a n l => h.nx G W H2 O' σ' a ⟨e.trans n.ext, n.dis, n.oc, n.own⟩ l, fun d W H2 O' v a n l => h.rt d W H2 O' v a ⟨e.trans n.ext, n.dis, n.oc, n.own⟩ l,
   fun G W H2 O' σ' a n l => h.bk G W H2 O' σ' a ⟨e.trans n.ext, n.dis, n.oc, n.own⟩ l, fun G W H2 O' σ' a n l => h.ct G W H2 O' σ' a ⟨e.trans n.ext, n.dis, n.oc, n.own⟩ l⟩
variable {te ta tb : TE} {t u : TT} {R R' : D → Om → Prop} {S S' : Bool → Om → Prop} {tr : TA} {ts tz : TS}
theorem Ev.imp (h : Ev F T te G W R) (i : ∀ d W', R d W' → R' d W') : Ev F T te G W R' := fun C H O σ w Q q => h C H O σ w Q fun d W' H' O' v r n k => q d W' H' O' v (i d W' r) n k
theorem EvT.imp (h : EvT F T t G W S) (i : ∀ b W', S b W' → S' b W') : EvT F T t G W S' := fun C H O σ w Q q => h C H O σ w Q fun d W' H' O' r n => q d W' H' O' (i d W' r) n
theorem Sw.imp (h : Sw F T ts G W E) (h1 : ∀ G W, E.nx G W → E'.nx G W) (h2 : ∀ d W, E.rt d W → E'.rt d W) (h3 : ∀ G W, E.bk G W → E'.bk G W) (h4 : ∀ G W, E.ct G W → E'.ct G W) : Sw F T ts G W E' :=
  fun C H O σ w B b => h C H O σ w B ⟨fun G W H' O' σ' a => b.nx G W H' O' σ' (h1 G W a), fun d W H' O' v a => b.rt d W H' O' v (h2 d W a), fun G W H' O' σ' a => b.bk G W H' O' σ' (h3 G W a), fun G W H' O' σ' a => b.ct G W H' O' σ' (h4 G W a)⟩
theorem ev_var {i : Nat} {d : D} (h : G[i]? = some (some d)) (r : R d W) : Ev F T (tVar i) G W R := fun C H O σ w Q q =>
  let ⟨v, e, k⟩ := w.loc.at_ i d h
  ⟨v, e, q d W H O v r w.nx k⟩
theorem ev_c {v : V} (r : R (.vl v) W) : Ev F T (tC v) G W R := fun C H O σ w Q q => q (.vl v) W H O v r w.nx rfl
theorem ev_op {r : R2} (h : Ev F T ta G W fun d1 W1 => Ev F T tb G W1 fun d2 W2 => Bo F T r d1 d2 W2 R) : Ev F T (tOp r ta tb) G W R := fun C H O σ w Q q =>
  h C H O σ w _ fun d1 W1 H1 O1 x h1 n1 k1 => h1 C H1 O1 σ (w.step n1) _ fun d2 W2 H2 O2 y h2 n2 k2 =>
    h2 C H2 O2 n2.dis n2.oc n2.own x y (k1.mono n2.ext) k2 Q fun d W' H' O' v rr n k => q d W' H' O' v rr ((n1.trans n2).trans n) k
theorem ev_cb {r : List V → Hp → VK → Prop} (h : EvA F T tr G W fun ds W1 => Ca F T r ds W1 R) : Ev F T (tCB r tr) G W R := fun C H O σ w Q q =>
  h C H O σ w _ fun ds W1 H1 O1 vs h1 n1 k1 => h1 C H1 O1 n1.dis n1.oc n1.own vs k1 Q fun d W' H' O' v rr n k => q d W' H' O' v rr (n1.trans n) k
theorem ea_nil {Z : List D → Om → Prop} (r : Z [] W) : EvA F T tNil G W Z := fun C H O σ w Q q => q [] W H O [] r w.nx rfl
theorem ea_cons {Z : List D → Om → Prop} (h : Ev F T ta G W fun d W1 => EvA F T tr G W1 fun ds W2 => Z (d :: ds) W2) : EvA F T (tCons ta tr) G W Z := fun C H O σ w Q q =>
  h C H O σ w _ fun d W1 H1 O1 x h1 n1 k1 => h1 C H1 O1 σ (w.step n1) _ fun ds W2 H2 O2 vs h2 n2 k2 => q (d :: ds) W2 H2 O2 (x :: vs) h2 (n1.trans n2) ⟨x, vs, rfl, k1.mono n2.ext, k2⟩
theorem et_test (h : Ev F T te G W fun d W1 => ∃ b, d = .bl b ∧ S b W1) : EvT F T (tTest te) G W S := fun C H O σ w Q q =>
  h C H O σ w _ fun d W1 H1 O1 x ⟨b, e, s⟩ n k => by
    subst e
    have k : x = .bl b := k
    exact ⟨b, k, q b W1 H1 O1 s n⟩
theorem et_B (h : Ev F T te G W fun d W1 => ∃ b, d = .bl b ∧ S b W1) : EvT F T (tB te) G W S := et_test h
theorem et_not (h : EvT F T t G W fun b W1 => S (!b) W1) : EvT F T (tNot t) G W S := fun C H O σ w Q q => h C H O σ w _ fun b W1 H1 O1 s n => q (!b) W1 H1 O1 s n
theorem et_and (h : EvT F T t G W fun b W1 => if b = true then EvT F T u G W1 S else S false W1) : EvT F T (tAnd t u) G W S := fun C H O σ w Q q =>
  h C H O σ w _ fun b W1 H1 O1 s n => by
    cases b with
    | true => exact s C H1 O1 σ (w.step n) _ fun b W2 H2 O2 s2 n2 => q b W2 H2 O2 s2 (n.trans n2)
    | false => exact q false W1 H1 O1 s n
theorem et_or (h : EvT F T t G W fun b W1 => if b = true then S true W1 else EvT F T u G W1 S) : EvT F T (tOr t u) G W S := fun C H O σ w Q q =>
  h C H O σ w _ fun b W1 H1 O1 s n => by
    cases b with
    | true => exact q true W1 H1 O1 s n
    | false => exact s C H1 O1 σ (w.step n) _ fun b W2 H2 O2 s2 n2 => q b W2 H2 O2 s2 (n.trans n2)
theorem ev_andV (h : Ev F T ta G W fun d W1 => ∃ b, d = .bl b ∧ if b = true then Ev F T tb G W1 R else R (.bl false) W1) : Ev F T (tAndV ta tb) G W R := fun C H O σ w Q q =>
  h C H O σ w _ fun d W1 H1 O1 x ⟨b, e, s⟩ n k => by
    subst e
    have k : x = .bl b := k
    refine ⟨b, k, ?_⟩
    cases b with
    | true => exact s C H1 O1 σ (w.step n) _ fun d W2 H2 O2 v s2 n2 k2 => q d W2 H2 O2 v s2 (n.trans n2) k2
    | false => exact q _ W1 H1 O1 _ s n rfl
theorem ev_orV (h : Ev F T ta G W fun d W1 => ∃ b, d = .bl b ∧ if b = true then R (.bl true) W1 else Ev F T tb G W1 R) : Ev F T (tOrV ta tb) G W R := fun C H O σ w Q q =>
  h C H O σ w _ fun d W1 H1 O1 x ⟨b, e, s⟩ n k => by
    subst e
    have k : x = .bl b := k
    refine ⟨b, k, ?_⟩
    cases b with
    | true => exact q _ W1 H1 O1 _ s n rfl
    | false => exact s C H1 O1 σ (w.step n) _ fun d W2 H2 O2 v s2 n2 k2 => q d W2 H2 O2 v s2 (n.trans n2) k2
theorem ev_notV (h : Ev F T ta G W fun d W1 => ∃ b, d = .bl b ∧ R (.bl (!b)) W1) : Ev F T (tNotV ta) G W R := fun C H O σ w Q q =>
  h C H O σ w _ fun d W1 H1 O1 x ⟨b, e, s⟩ n k => by
    subst e
    have k : x = .bl b := k
    exact ⟨b, k, q _ W1 H1 O1 _ s n rfl⟩
theorem ev_if (h : EvT F T t G W fun b W1 => if b = true then Ev F T ta G W1 R else Ev F T tb G W1 R) : Ev F T (tIf t ta tb) G W R := fun C H O σ w Q q =>
  h C H O σ w _ fun b W1 H1 O1 s n => by
    cases b with
    | true => exact s C H1 O1 σ (w.step n) _ fun d W2 H2 O2 v s2 n2 k2 => q d W2 H2 O2 v s2 (n.trans n2) k2
    | false => exact s C H1 O1 σ (w.step n) _ fun d W2 H2 O2 v s2 n2 k2 => q d W2 H2 O2 v s2 (n.trans n2) k2
theorem op_sc {r : R2} {x y : V} (h : ∀ (H : Hp) (Q : VK), (∀ z, R (.vl z) W → Q z H) → r x y H Q) : Bo F T r (.vl x) (.vl y) W R := fun C H O dis oc own x' y' hx hy Q q => by
  have hx : x' = x := hx
  have hy : y' = y := hy
  subst hx hy
  exact h _ Q fun z rz => q (.vl z) W H O z rz (.refl dis oc own) rfl
theorem cl_sc {r : List V → Hp → VK → Prop} {xs : List V} (h : ∀ (H : Hp) (Q : VK), (∀ z, R (.vl z) W → Q z H) → r xs H Q) : Ca F T r (xs.map D.vl) W R := fun C H O dis oc own vs hv Q q => by
  have hv := DenL.vls_inv hv
  subst hv
  exact h _ Q fun z rz => q (.vl z) W H O z rz (.refl dis oc own) rfl
theorem sw_next (h : E.nx G W) : Sw F T tNext G W E := fun C H O σ w B b => b.nx G W H O σ h w.nx w.loc
theorem sw_brk (h : E.bk G W) : Sw F T tBreak G W E := fun C H O σ w B b => b.bk G W H O σ h w.nx w.loc
theorem sw_cont (h : E.ct G W) : Sw F T tCont G W E := fun C H O σ w B b => b.ct G W H O σ h w.nx w.loc
theorem sw_seq (h : Sw F T ts G W { E with nx := fun G' W' => Sw F T tz G' W' E }) : Sw F T (tSeq ts tz) G W E := fun C H O σ w B b =>
  h C H O σ w { B with nx := tz B } ⟨fun G' W' H' O' σ' a n l => a C H' O' σ' ⟨n.dis, n.oc, l, n.own⟩ B (b.up n.ext), b.rt, b.bk, b.ct⟩
theorem sw_drop (h : Ev F T te G W fun _ W' => E.nx G W') : Sw F T (tDrop te) G W E := fun C H O σ w B b =>
  h C H O σ w _ fun d W' H' O' v r n k => b.nx G W' H' O' σ r n (w.loc.mono n.ext)
theorem sw_ret (h : Ev F T te G W E.rt) : Sw F T (tRet te) G W E := fun C H O σ w B b =>
  h C H O σ w _ fun d W' H' O' v r n k => b.rt d W' H' O' v r n k
theorem sw_retN (h : E.rt .non W) : Sw F T tRetN G W E := fun C H O σ w B b => b.rt .non W H O .non h w.nx rfl
theorem sw_if (h : EvT F T t G W fun c W' => if c = true then Sw F T ts G W' E else Sw F T tz G W' E) : Sw F T (tIfS t ts tz) G W E := fun C H O σ w B b =>
  h C H O σ w _ fun c W' H' O' r n => by
    cases c with
    | true => exact r C H' O' σ (w.step n) B (b.up n.ext)
    | false => exact r C H' O' σ (w.step n) B (b.up n.ext)
theorem sw_set {i : Nat} (h : Ev F T te G W fun d W' => E.nx (G.set i (some d)) W') : Sw F T (tAsg te (gName i)) G W E := fun C H O σ w B b =>
  h C H O σ w _ fun d W' H' O' v r n k => b.nx _ W' H' O' _ r n ((w.loc.mono n.ext).set k)
theorem sw_par {i j : Nat} {ta : TA} (h : EvA F T ta G W fun ds W' => ∃ d1 d2, ds = [d1, d2] ∧ E.nx ((G.set i (some d1)).set j (some d2)) W') : Sw F T (tPar i j ta) G W E := fun C H O σ w B b =>
  h C H O σ w _ fun ds W' H' O' vs ⟨d1, d2, e, r⟩ n k => by
    subst e
    obtain ⟨v1, r1, e1, k1, v2, r2, e2, k2, e3⟩ := k
    have e3 : r2 = [] := e3
    subst e3 e2 e1
    exact ⟨v1, v2, rfl, b.nx _ W' H' O' _ r n (((w.loc.mono n.ext).set k1).set k2)⟩
theorem tg_name {i : Nat} {d : D} {Z : Gm → Prop} (h : Z (G.set i (some d))) : Tg F T (gName i) d G Z := fun H H1 σ v l _ k Q q => q _ _ h (l.set k)
theorem sw_for {wi : TI} {g : TG} (h : EvI F T wi G W fun ds W1 => ∃ I : Nat → Gm → Om → Prop, I 0 G W1 ∧
      (∀ i d G' W', ds[i]? = some d → I i G' W' → Tg F T g d G' fun G2 => Sw F T ts G2 W' { E with nx := I (i + 1), ct := I (i + 1), bk := E.nx }) ∧ (∀ G' W', I ds.length G' W' → E.nx G' W')) :
    Sw F T (tFor wi g ts) G W E := fun C H O σ w B b =>
  h C H O σ w _ fun J ds W1 H1 O1 ⟨I, i0, turn, fin⟩ n1 wk => by
    refine ⟨fun i m σ' X => m = ds.length - i ∧ i ≤ ds.length ∧ ∃ G' W' H' O', X = ov O' H' ∧ Nx F T C W' H1 H' O' ∧ Lo F T H' G' σ' ∧ I i G' W', ⟨ds.length, by simp, Nat.zero_le _, G, W1, H1, O1, rfl, ⟨Same.refl _, n1.dis, n1.oc, n1.own⟩, w.loc.mono n1.ext, i0⟩, ?_⟩
    rintro i m σ' X ⟨rfl, hi, G', W', H', O', rfl, n, l, ii⟩
    have k := wk i H' O' n.ext n.dis
    by_cases hlt : i < ds.length
    · obtain ⟨k1, k2⟩ := k.1 ds[i] (by simp [hlt])
      refine .inr ⟨k1, fun σ2 X2 => ∃ G2 W2 H2 O2, X2 = ov O2 H2 ∧ Nx F T C W2 H1 H2 O2 ∧ Lo F T H2 G2 σ2 ∧ I (i + 1) G2 W2, fun σ2 X2 ⟨G2, W2, H2, O2, e, n2, l2, i2⟩ => ⟨ds.length - (i + 1), by omega, rfl, hlt, G2, W2, H2, O2, e, n2, l2, i2⟩, fun x X2 y => ?_⟩
      obtain ⟨H2, s2, d2, rfl, kx⟩ := k2 x X2 y
      refine turn i ds[i] G' W' (by simp [hlt]) ii H2 _ σ' x (l.mono s2) d2.same kx _ fun G3 σ3 sw l3 => ?_
      refine sw C H2 O' σ3 ⟨d2, n.oc, l3, n.own.mono s2⟩ _ ⟨fun G4 W4 H4 O4 σ4 a n4 l4 => ⟨G4, W4, H4, O4, rfl, ⟨(n.ext.trans s2).trans n4.ext, n4.dis, n4.oc, n4.own⟩, l4, a⟩, ?_, ?_, fun G4 W4 H4 O4 σ4 a n4 l4 => ⟨G4, W4, H4, O4, rfl, ⟨(n.ext.trans s2).trans n4.ext, n4.dis, n4.oc, n4.own⟩, l4, a⟩⟩
      · exact fun d W4 H4 O4 v a n4 k4 => b.rt d W4 H4 O4 v a ⟨((n1.ext.trans n.ext).trans s2).trans n4.ext, n4.dis, n4.oc, n4.own⟩ k4
      · exact fun G4 W4 H4 O4 σ4 a n4 l4 => b.nx G4 W4 H4 O4 σ4 a ⟨((n1.ext.trans n.ext).trans s2).trans n4.ext, n4.dis, n4.oc, n4.own⟩ l4
    · have e : i = ds.length := by omega
      subst e
      exact .inl ⟨k.2 rfl, b.nx G' W' H' O' σ' (fin G' W' ii) ⟨n1.ext.trans n.ext, n.dis, n.oc, n.own⟩ l⟩
end
end N
set_option Elab.async false
set_option linter.all false
set_option maxRecDepth 100000
namespace N
open PySem L2
section
variable {F : FmKit} {T : Kx} {C H H' O O' : Hp} {G : Gm} {W W' : Om} {σ : St} {a p : Addr} {od : OD} {d : D} {l : List D}
theorem Ow.sub {W2 : Om} (o : Ow F T H C O W) (h : W2.Sublist W) : Ow F T H C O W2 := ⟨o.nd.sublist (h.map _), fun a od m => o.at_ a od (h.subset m)⟩
theorem Ow.perm {W2 : Om} (o : Ow F T H C O W) (h : W.Perm W2) : Ow F T H C O W2 := ⟨(h.map _).nodup_iff.mp o.nd, fun a od m => o.at_ a od (h.mem_iff.mpr m)⟩
theorem Ow.tail {x : Addr × OD} (o : Ow F T H C O (x :: W)) : Ow F T H C O W := o.sub (List.sublist_cons_self x W)
theorem akeys_cons {x : Addr × OD} : akeys (x :: W) = x.1 :: akeys W := rfl
theorem mem_akeys {x : Addr × OD} (h : x ∈ W) : x.1 ∈ akeys W := List.mem_map.mpr ⟨x, h, rfl⟩
/-- a new owned cell -/
theorem Nx.newO {o : HO} (n : Nx F T C W H H' O') (hp : ov O' H' p = none) (h : OdAt F T H' (some o) od) : Nx F T C ((p, od) :: W) H H' (upd O' p o) ∧ upd (ov O' H') p o = ov (upd O' p o) H' ∧ p ∉ akeys W := by
  obtain ⟨h1, h2⟩ := ov_none hp
  have np := n.own.notin h1
  have cp : C p = none := by
    cases e : C p with
    | none => rfl
    | some x =>
      rw [n.oc p x e] at h1
      cases h1
  refine ⟨⟨n.ext, n.dis.updO h2, fun b x e => ?_, ⟨List.nodup_cons.mpr ⟨np, n.own.nd⟩, fun b ob m => ?_⟩⟩, ov_updO, np⟩
  · rw [upd_ne (ne_of_none e cp)]
    exact n.oc b x e
  · rcases List.mem_cons.mp m with e | m
    · obtain ⟨rfl, rfl⟩ := Prod.mk.inj e
      rw [upd_same]
      exact ⟨cp, h⟩
    · have : b ≠ p := fun q => np (q ▸ mem_akeys (x := (b, ob)) m)
      rw [upd_ne this]
      exact n.own.at_ b ob m
/-- a new frozen cell -/
theorem Nx.newF {o : HO} (n : Nx F T C W H H' O') (hp : ov O' H' p = none) : Nx F T C W H (upd H' p o) O' ∧ upd (ov O' H') p o = ov O' (upd H' p o) ∧ Same H' (upd H' p o) := by
  obtain ⟨h1, h2⟩ := ov_none hp
  have e := same_upd (o := o) h2
  exact ⟨⟨n.ext.trans e, n.dis.updH h1, n.oc, n.own.mono e⟩, ov_updH h1, e⟩
/-- an owned cell is written -/
theorem Nx.write {o : HO} {od2 : OD} {W1 W2 : Om} (n : Nx F T C (W1 ++ (p, od) :: W2) H H' O') (h : OdAt F T H' (some o) od2) : Nx F T C (W1 ++ (p, od2) :: W2) H H' (upd O' p o) ∧ upd (ov O' H') p o = ov (upd O' p o) H' := by
  have hm : (p, od) ∈ W1 ++ (p, od) :: W2 := by simp
  obtain ⟨cp, x⟩ := n.own.at_ p od hm
  obtain ⟨u, eu⟩ := x.some
  have nd := n.own.nd
  have ndk : (akeys (W1 ++ (p, od2) :: W2)) = akeys (W1 ++ (p, od) :: W2) := by simp [akeys]
  refine ⟨⟨n.ext, n.dis.updO (n.dis p u eu), fun b x e => ?_, ⟨by rw [ndk]; exact nd, fun b ob m => ?_⟩⟩, ov_updO⟩
  · rw [upd_ne (ne_of_none e cp)]
    exact n.oc b x e
  · by_cases q : b = p
    · subst q
      have : ob = od2 := by
        have nd2 : (akeys (W1 ++ (b, od2) :: W2)).Nodup := by rw [ndk]; exact nd
        have hu : ∀ (W : Om) (x y : OD), (akeys W).Nodup → (b, x) ∈ W → (b, y) ∈ W → x = y := by
          intro W
          induction W with
          | nil => intro x y _ h; simp at h
          | cons z W ih =>
            intro x y hn hx hy
            rw [akeys_cons, List.nodup_cons] at hn
            rcases List.mem_cons.mp hx with ex | hx
            · rcases List.mem_cons.mp hy with ey | hy
              · rw [← ex] at ey
                exact (Prod.mk.inj ey).2.symm
              · exact absurd (by rw [← ex]; exact mem_akeys (x := (b, y)) hy) hn.1
            · rcases List.mem_cons.mp hy with ey | hy
              · exact absurd (by rw [← ey]; exact mem_akeys (x := (b, x)) hx) hn.1
              · exact ih x y hn.2 hx hy
        exact hu _ ob od2 nd2 m (by simp)
      subst this
      rw [upd_same]
      exact ⟨cp, h⟩
    · rw [upd_ne q]
      refine n.own.at_ b ob ?_
      rcases List.mem_append.mp m with m | m
      · exact List.mem_append_left _ m
      · rcases List.mem_cons.mp m with e | m
        · exact absurd (Prod.mk.inj e).1 q
        · exact List.mem_append_right _ (List.mem_cons_of_mem _ m)
def partsD : Fm → List D
  | .at c => [.str ⟨#[c]⟩]
  | .no => []
  | .imp a b => [.fm a, .fm b]
  | .all a => [.fm a]
def AllsD (a : Addr) (f : Fm) : List D → List Fm → Prop
  | [], fs => fs = []
  | d :: ds, fs => ∃ g r, fs = g :: r ∧ (d = .fm g ∨ (d = .adr a ∧ g = f)) ∧ AllsD a f ds r
inductive Fzd (F : FmKit) (a : Addr) : OD → D → Prop
  | lst (l : List D) : Fzd F a (.lst l) (.lst l)
  | dct (ks : List Key) (l : List D) : Fzd F a (.dct ks l) (.dct ks l)
  | obj (c : Nat) (ns : List Str) (l : List D) : Fzd F a (.ins c ns l) (.obj c ns l)
  | fm (f : Fm) (al : List D) : AllsD a f al (F.alls f) → Fzd F a (.ins 0 fmNames [.str (F.kind f), .tup (partsD f), .int (F.many f), .int (F.deep f), .str (F.atoms f), .str (F.bare f), .str (F.spell f), .tup al]) (.fm f)
theorem parts_of {R : Addr → Fm → Prop} (hR : ∀ b g, FormAt F T H b g → R b g) : ∀ {f : Fm} {xs : List V}, DenL F T H (partsD f) xs → PartsR R f xs
  | .at c, xs, h => DenL.vls_inv (ws := [.str ⟨#[c]⟩]) h
  | .no, xs, h => h
  | .imp a b, xs, ⟨v, r, e, ⟨p, e1, h1⟩, u, s, e2, ⟨q, e3, h3⟩, e4⟩ => by
    have e4 : s = [] := e4
    subst e e1 e2 e3 e4
    exact ⟨p, q, rfl, hR _ _ h1, hR _ _ h3⟩
  | .all a, xs, ⟨v, r, e, ⟨p, e1, h1⟩, e2⟩ => by
    have e2 : r = [] := e2
    subst e e1 e2
    exact ⟨p, rfl, hR _ _ h1⟩
theorem alls_of {R : Addr → Fm → Prop} {f : Fm} (hR : ∀ b g, FormAt F T H b g → R b g) (ha : R a f) : ∀ {al : List D} {xs : List V} {fs : List Fm}, AllsD a f al fs → DenL F T H al xs → ∃ as : List Addr, xs = as.map V.ref ∧ AllR R as fs
  | [], xs, fs, h, k => ⟨[], k, h⟩
  | d :: ds, xs, fs, ⟨g, r, e, hd, ht⟩, ⟨v, rv, e1, k1, k2⟩ => by
    obtain ⟨as, e2, h2⟩ := alls_of hR ha ht k2
    subst e e1 e2
    rcases hd with hd | ⟨hd, hg⟩
    · subst hd
      obtain ⟨b, e3, h3⟩ := k1
      subst e3
      exact ⟨b :: as, rfl, g, r, rfl, hR _ _ h3, h2⟩
    · subst hd hg
      have k1 : v = .ref a := k1
      subst k1
      exact ⟨a :: as, rfl, g, r, rfl, ha, h2⟩
theorem lcons {α : Type} {n : α} {ns : List α} : ∀ {fs : List (α × V)}, fs.map (·.1) = n :: ns → ∃ v r, fs = (n, v) :: r ∧ r.map (·.1) = ns
  | [], h => by simp at h
  | (m, v) :: r, h => by
    rw [List.map_cons] at h
    injection h with h1 h2
    exact ⟨v, r, by rw [← h1], h2⟩
theorem Fzd.den (z : Fzd F a od d) (h : OdAt F T H (O a) od) (hn : H a = none) : ∃ o, O a = some o ∧ Den F T (upd H a o) d (.ref a) := by
  cases z with
  | lst l =>
    obtain ⟨xs, e, k⟩ := h
    exact ⟨_, e, a, xs, rfl, upd_same, k.mono (same_upd hn)⟩
  | dct ks l =>
    obtain ⟨kvs, e, h1, h2, k⟩ := h
    exact ⟨_, e, a, kvs, rfl, upd_same, h1, h2, k.mono (same_upd hn)⟩
  | obj c ns l =>
    obtain ⟨dx, fs, e, h1, k⟩ := h
    exact ⟨_, e, a, dx, fs, rfl, upd_same, h1, k.mono (same_upd hn)⟩
  | fm f al hal =>
    obtain ⟨dx, fs, e, h1, k⟩ := h
    refine ⟨_, e, a, rfl, ?_⟩
    obtain ⟨v1, r1, g1, w1⟩ := lcons h1
    subst g1
    obtain ⟨v2, r2, g2, w2⟩ := lcons w1
    subst g2
    obtain ⟨v3, r3, g3, w3⟩ := lcons w2
    subst g3
    obtain ⟨v4, r4, g4, w4⟩ := lcons w3
    subst g4
    obtain ⟨v5, r5, g5, w5⟩ := lcons w4
    subst g5
    obtain ⟨v6, r6, g6, w6⟩ := lcons w5
    subst g6
    obtain ⟨v7, r7, g7, w7⟩ := lcons w6
    subst g7
    obtain ⟨v8, r8, g8, w8⟩ := lcons w7
    subst g8
    have w9 : r8 = [] := List.map_eq_nil_iff.mp w8
    subst w9
    have k := k.mono (same_upd (o := .ins (T.cl 0) dx [("kind", v1), ("parts", v2), ("many", v3), ("deepest", v4), ("atoms", v5), ("bare", v6), ("spelled", v7), ("alls_known", v8)]) hn)
    obtain ⟨_, _, q1, k1, _, _, q2, k2, _, _, q3, k3, _, _, q4, k4, _, _, q5, k5, _, _, q6, k6, _, _, q7, k7, _, _, q8, k8, _⟩ := k
    simp only [List.map_cons, List.map_nil, List.cons.injEq] at q1 q2 q3 q4 q5 q6 q7 q8
    obtain ⟨rfl, rfl⟩ := q1
    obtain ⟨rfl, rfl⟩ := q2
    obtain ⟨rfl, rfl⟩ := q3
    obtain ⟨rfl, rfl⟩ := q4
    obtain ⟨rfl, rfl⟩ := q5
    obtain ⟨rfl, rfl⟩ := q6
    obtain ⟨rfl, rfl⟩ := q7
    obtain ⟨rfl, rfl⟩ := q8
    have k1 : v1 = .str (F.kind f) := k1
    obtain ⟨pa, ps, ep, hp, kp⟩ := k2
    have k3 : v3 = .int (F.many f) := k3
    have k4 : v4 = .int (F.deep f) := k4
    have k5 : v5 = .str (F.atoms f) := k5
    have k6 : v6 = .str (F.bare f) := k6
    have k7 : v7 = .str (F.spell f) := k7
    obtain ⟨aa, as, ea, ha, ka⟩ := k8
    subst k1 ep k3 k4 k5 k6 k7 ea
    obtain ⟨bs, eb, hb⟩ := alls_of (R := fun b g => FormAt F T (upd H a (.ins (T.cl 0) dx (fmFields F f pa aa))) b g ∨ (b = a ∧ g = f)) (fun b g x => .inl x) (.inr ⟨rfl, rfl⟩) hal ka
    subst eb
    exact FormAt.mk ⟨dx, pa, ps, aa, bs, upd_same, hp, parts_of (fun b g x => .inl x) kp, ha, hb⟩
/-- what may be taken in the place of d -/
def Fz (F : FmKit) (R : D → Om → Prop) : D → Om → Prop := fun d W => ∃ a od W2 d', d = .adr a ∧ W.Perm ((a, od) :: W2) ∧ Fzd F a od d' ∧ R d' W2
theorem Nx.freeze {W2 : Om} {d' : D} (n : Nx F T C W H H' O') (hp : W.Perm ((a, od) :: W2)) (z : Fzd F a od d') : ∃ o, O' a = some o ∧ Nx F T C W2 H (upd H' a o) (del O' a) ∧ ov O' H' = ov (del O' a) (upd H' a o) ∧ Den F T (upd H' a o) d' (.ref a) ∧ Same H' (upd H' a o) := by
  have ow := n.own.perm hp
  obtain ⟨ca, oa⟩ := ow.at_ a od (by simp)
  obtain ⟨u, eu⟩ := oa.some
  have hn : H' a = none := n.dis a u eu
  obtain ⟨o, eo, k⟩ := z.den (O := O') oa hn
  have e := same_upd (o := o) hn
  have nd := ow.nd
  rw [akeys_cons, List.nodup_cons] at nd
  refine ⟨o, eo, ⟨n.ext.trans e, n.dis.freeze, fun b x q => ?_, ⟨nd.2, fun b ob m => ?_⟩⟩, ov_freeze eo, k, e⟩
  · rw [del_ne (ne_of_none q ca)]
    exact n.oc b x q
  · have hb : b ≠ a := fun q => nd.1 (q ▸ mem_akeys (x := (b, ob)) m)
    rw [del_ne hb]
    obtain ⟨h1, h2⟩ := ow.at_ b ob (List.mem_cons_of_mem _ m)
    exact ⟨h1, h2.mono e⟩
end
section
variable {F : FmKit} {T : Kx} {C H H' O O' : Hp} {G : Gm} {W W' : Om} {σ : St} {a p : Addr} {od : OD} {d : D} {l : List D}
  {te ta tb : TE} {t u : TT} {R R' : D → Om → Prop} {S S' : Bool → Om → Prop} {tr : TA} {ts tz : TS} {E E' : En}
theorem ev_fz (h : Ev F T te G W (Fz F R)) : Ev F T te G W R := fun C H O σ w Q q => h C H O σ w Q fun d W' H' O' v ⟨a, od, W2, d', e, hp, z, r⟩ n k => by
  subst e
  have k : v = .ref a := k
  subst k
  obtain ⟨o, _, n2, eo, k2, _⟩ := n.freeze hp z
  rw [eo]
  exact q d' W2 _ _ _ r n2 k2
theorem ca_fz {r : List V → Hp → VK → Prop} {ds : List D} (h : Ca F T r ds W (Fz F R)) : Ca F T r ds W R := fun C H O di oc ow xs hx Q q => h C H O di oc ow xs hx Q fun d W' H' O' v ⟨a, od, W2, d', e, hp, z, r⟩ n k => by
  subst e
  have k : v = .ref a := k
  subst k
  obtain ⟨o, _, n2, eo, k2, _⟩ := n.freeze hp z
  rw [eo]
  exact q d' W2 _ _ _ r n2 k2
theorem sw_drp {W2 : Om} (hs : W2.Sublist W) (h : Sw F T ts G W2 E) : Sw F T ts G W E := fun C H O σ w B b => h C H O σ ⟨w.dis, w.oc, w.loc, w.own.sub hs⟩ B b
theorem ev_tup (h : EvA F T tr G W fun ds W1 => ds.length ≤ sizeLine ∧ R (.tup ds) W1) : Ev F T (tTup tr) G W R := fun C H O σ w Q q =>
  h C H O σ w _ fun ds W1 H1 O1 vs ⟨hl, r⟩ n k => ⟨by rw [k.len]; exact hl, fun p hp => by
    obtain ⟨n2, e, s⟩ := n.newF (o := .tup vs) hp
    rw [e]
    exact q (.tup ds) W1 _ _ _ r n2 ⟨p, vs, rfl, SqT.of upd_same, k.mono s⟩⟩
/-- .. frozen at once -/
theorem ev_lstF (h : EvA F T tr G W fun ds W1 => ds.length ≤ sizeLine ∧ R (.lst ds) W1) : Ev F T (tLst tr) G W R := fun C H O σ w Q q =>
  h C H O σ w _ fun ds W1 H1 O1 vs ⟨hl, r⟩ n k => ⟨by rw [k.len]; exact hl, fun p hp => by
    obtain ⟨n2, e, s⟩ := n.newF (o := .lst vs) hp
    rw [e]
    exact q (.lst ds) W1 _ _ _ r n2 ⟨p, vs, rfl, upd_same, k.mono s⟩⟩
/-- d is a list of l: frozen, or owned -/
def Vl (W : Om) (d : D) (l : List D) : Prop := (d = .lst l ∨ ∃ vs, d = .scr vs ∧ l = vs.map .vl) ∨ ∃ a, d = .adr a ∧ (a, .lst l) ∈ W
def Vs (W : Om) (d : D) (l : List D) : Prop := Vl W d l ∨ d = .tup l
theorem Vl.sq {x : V} (o : Ow F T H C O W) (di : Dis O H) (h : Vl W d l) (k : Den F T H d x) : ∃ a xs, x = .ref a ∧ SqL T.K (ov O H) a xs ∧ DenL F T H l xs := by
  rcases h with (rfl | ⟨vs, rfl, rfl⟩) | ⟨a, rfl, m⟩
  · obtain ⟨a, xs, e, hs, kl⟩ := k
    exact ⟨a, xs, e, SqL.of (di.same _ _ hs), kl⟩
  · obtain ⟨a, e, hs⟩ := k
    exact ⟨a, vs, e, di.same.seq hs, .vls vs⟩
  · obtain ⟨_, xs, e, kl⟩ := o.at_ a _ m
    exact ⟨a, xs, k, SqL.of (ov_own e), kl⟩
/-- a list that the program has made -/
def Vt (W : Om) (d : D) (l : List D) : Prop := d = .lst l ∨ ∃ a, d = .adr a ∧ (a, .lst l) ∈ W
theorem Vt.vl (h : Vt W d l) : Vl W d l := h.elim (fun h => .inl (.inl h)) .inr
theorem Vt.at {x : V} (o : Ow F T H C O W) (di : Dis O H) (h : Vt W d l) (k : Den F T H d x) : ∃ a xs, x = .ref a ∧ ov O H a = some (.lst xs) ∧ DenL F T H l xs := by
  rcases h with rfl | ⟨a, rfl, m⟩
  · obtain ⟨a, xs, e, hs, kl⟩ := k
    exact ⟨a, xs, e, di.same _ _ hs, kl⟩
  · obtain ⟨_, xs, e, kl⟩ := o.at_ a _ m
    exact ⟨a, xs, k, ov_own e, kl⟩
theorem Vs.sq {x : V} (o : Ow F T H C O W) (di : Dis O H) (h : Vs W d l) (k : Den F T H d x) : ∃ a xs, x = .ref a ∧ (SqL T.K (ov O H) a xs ∨ SqT T.K (ov O H) a xs) ∧ DenL F T H l xs := by
  rcases h with h | rfl
  · obtain ⟨a, xs, e, hs, kl⟩ := h.sq o di k
    exact ⟨a, xs, e, .inl hs, kl⟩
  · obtain ⟨a, xs, e, hs, kl⟩ := k
    exact ⟨a, xs, e, .inr (Same.sqT di.same hs), kl⟩
theorem ca_one {r : List V → Hp → VK → Prop} {d : D} (h : ∀ (C H O : Hp), Dis O H → Same C O → Ow F T H C O W → ∀ x, Den F T H d x → ∀ Q : VK, (∀ d W' H' O' v, R d W' → Nx F T C W' H H' O' → Den F T H' d v → Q v (ov O' H')) → r [x] (ov O H) Q) : Ca F T r [d] W R := fun C H O di oc ow vs k Q q => by
  obtain ⟨v, r', e, k1, e2⟩ := k
  have e2 : r' = [] := e2
  subst e e2
  exact h C H O di oc ow v k1 Q q
theorem ca_two {r : List V → Hp → VK → Prop} {d e : D} (h : ∀ (C H O : Hp), Dis O H → Same C O → Ow F T H C O W → ∀ x y, Den F T H d x → Den F T H e y → ∀ Q : VK, (∀ d W' H' O' v, R d W' → Nx F T C W' H H' O' → Den F T H' d v → Q v (ov O' H')) → r [x, y] (ov O H) Q) : Ca F T r [d, e] W R := fun C H O di oc ow vs k Q q => by
  obtain ⟨v, r', e1, k1, u, r2, e2, k2, e3⟩ := k
  have e3 : r2 = [] := e3
  subst e3 e2 e1
  exact h C H O di oc ow v u k1 k2 Q q
/-- len of a list or a tuple -/
theorem ca_len (hv : Vs W d l) (r : R (.int l.length) W) : Ca F T (fun xs H Q => ∃ x n, xs = [x] ∧ LenV T.K x H n ∧ Q (.int (n : Nat)) H) [d] W R := ca_one fun C H O di oc ow x k Q q => by
  obtain ⟨a, xs, e, hs, kl⟩ := hv.sq ow di k
  subst e
  refine ⟨_, xs.length, rfl, ?_, ?_⟩
  · exact hs.elim (fun h => .inl ⟨xs, h, rfl⟩) fun h => .inr ⟨xs, h, rfl⟩
  · rw [kl.len]
    exact q (.int l.length) W H O _ r (.refl di oc ow) rfl
theorem ca_lenS {s : Str} (hl : s.length ≤ sizeLine) (r : R (.int s.length) W) : Ca F T (fun xs H Q => ∃ x n, xs = [x] ∧ LenV T.K x H n ∧ Q (.int (n : Nat)) H) [.str s] W R := ca_one fun C H O di oc ow x k Q q => by
  have k : x = .str s := k
  subst k
  exact ⟨_, s.length, rfl, ⟨hl, rfl⟩, q (.int s.length) W H O _ r (.refl di oc ow) rfl⟩
/-- tuple(list) -/
theorem ca_tup (hv : Vl W d l) (r : R (.tup l) W) : Ca F T (fun xs H Q => ∃ p ys, xs = [.ref p] ∧ ((SqL T.K H p ys ∧ ∀ q, H q = none → Q (.ref q) (upd H q (.tup ys))) ∨ (SqT T.K H p ys ∧ Q (.ref p) H))) [d] W R := ca_one fun C H O di oc ow x k Q q => by
  obtain ⟨a, xs, e, hs, kl⟩ := hv.sq ow di k
  subst e
  refine ⟨a, xs, rfl, .inl ⟨hs, fun p hp => ?_⟩⟩
  obtain ⟨n2, e, s⟩ := (Nx.refl di oc ow).newF (o := .tup xs) hp
  rw [e]
  exact q (.tup l) W _ _ _ r n2 ⟨p, xs, rfl, SqT.of upd_same, kl.mono s⟩
theorem atI_len {α β : Type} {xs : List α} {ys : List β} {i : Int} {y : β} (hl : xs.length = ys.length) (h : atI ys i = some y) : ∃ j : Nat, ys[j]? = some y ∧ ∀ x, xs[j]? = some x → atI xs i = some x := by
  unfold atI at h ⊢
  rw [hl]
  cases e : ixN ys.length i with
  | none =>
    rw [e] at h
    cases h
  | some j =>
    rw [e] at h
    exact ⟨j, h, fun x hx => hx⟩
theorem DenL.atI {l : List D} {xs : List V} {i : Int} {d : D} (k : DenL F T H l xs) (h : atI l i = some d) : ∃ v, L2.atI xs i = some v ∧ Den F T H d v := by
  obtain ⟨j, hj, f⟩ := atI_len (xs := xs) k.len h
  obtain ⟨v, hv, kv⟩ := k.get hj
  exact ⟨v, f v hv, kv⟩
theorem bo_ixL {i : Int} {z : D} (hv : Vl W d l) (hi : atI l i = some z) (r : R z W) : Bo F T (rIxL T.K) d (.int i) W R := fun C H O di oc ow x y hx hy Q q => by
  obtain ⟨a, xs, e, hs, kl⟩ := hv.sq ow di hx
  have hy : y = .int i := hy
  obtain ⟨v, ev, kv⟩ := kl.atI hi
  subst e hy
  exact ⟨a, xs, i, v, rfl, rfl, hs, ev, q z W H O v r (.refl di oc ow) kv⟩
theorem bo_ixT {i : Int} {z : D} (hi : atI l i = some z) (r : R z W) : Bo F T (rIxT T.K) (.tup l) (.int i) W R := fun C H O di oc ow x y hx hy Q q => by
  obtain ⟨a, xs, e, hs, kl⟩ := hx
  have hy : y = .int i := hy
  obtain ⟨v, ev, kv⟩ := kl.atI hi
  subst e hy
  exact ⟨a, xs, i, v, rfl, rfl, Same.sqT di.same hs, ev, q z W H O v r (.refl di oc ow) kv⟩
theorem ev_bm {Ty : String} {r : V → List V → Hp → VK → Prop} {to : TE}
    (h : Ev F T to G W fun d W1 => (∀ (C H O : Hp), Dis O H → Same C O → Ow F T H C O W1 → ∀ x, Den F T H d x → tyV T.K Ty x (ov O H)) ∧ EvA F T tr G W1 fun ds W2 =>
      ∀ (C H O : Hp), Dis O H → Same C O → Ow F T H C O W2 → ∀ x vs, Den F T H d x → DenL F T H ds vs → ∀ Q : VK, (∀ d W' H' O' v, R d W' → Nx F T C W' H H' O' → Den F T H' d v → Q v (ov O' H')) → r x vs (ov O H) Q) : Ev F T (tBM T.K Ty r to tr) G W R := fun C H O σ w Q q =>
  h C H O σ w _ fun d W1 H1 O1 x ⟨ht, ha⟩ n1 k1 => ⟨ht C H1 O1 n1.dis n1.oc n1.own x k1, ha C H1 O1 σ (w.step n1) _ fun ds W2 H2 O2 vs r2 n2 k2 =>
    r2 C H2 O2 n2.dis n2.oc n2.own x vs (k1.mono n2.ext) k2 Q fun d W' H' O' v rr n k => q d W' H' O' v rr ((n1.trans n2).trans n) k⟩
theorem ev_bm0 {Ty : String} {r : V → List V → Hp → VK → Prop} {to : TE}
    (h : Ev F T to G W fun d W1 => ∀ (C H O : Hp), Dis O H → Same C O → Ow F T H C O W1 → ∀ x, Den F T H d x → tyV T.K Ty x (ov O H) ∧
      ∀ Q : VK, (∀ d W' H' O' v, R d W' → Nx F T C W' H H' O' → Den F T H' d v → Q v (ov O' H')) → r x [] (ov O H) Q) : Ev F T (tBM0 T.K Ty r to) G W R := fun C H O σ w Q q =>
  h C H O σ w _ fun d W1 H1 O1 x r1 n1 k1 => let ⟨ht, r2⟩ := r1 C H1 O1 n1.dis n1.oc n1.own x k1
    ⟨ht, r2 Q fun d W' H' O' v rr n k => q d W' H' O' v rr (n1.trans n) k⟩
theorem own_lst {W1 W2 : Om} (ow : Ow F T H C O (W1 ++ (a, .lst l) :: W2)) : ∃ xs, O a = some (.lst xs) ∧ DenL F T H l xs := (ow.at_ a (.lst l) (by simp)).2
/-- l.append(e) -/
theorem ev_append {to : TE} (h : Ev F T to G W fun d W0 => ∃ a l0 W01 W02, d = .adr a ∧ W0 = W01 ++ (a, .lst l0) :: W02 ∧ EvA F T tr G W0 fun ds W' => ∃ l W1 W2 z, W' = W1 ++ (a, .lst l) :: W2 ∧ ds = [z] ∧ l.length < sizeLine ∧ R .non (W1 ++ (a, .lst (l ++ [z])) :: W2)) :
    Ev F T (tBM T.K "list" rAppend to tr) G W R := ev_bm (h.imp fun d W0 ⟨a, l0, W01, W02, e1, e2, ha⟩ => by
  subst e1
  refine ⟨fun C H O di oc ow x kx => ?_, ?_⟩
  · have kx : x = .ref a := kx
    subst kx e2
    obtain ⟨xs, e, _⟩ := own_lst ow
    exact .inl ⟨rfl, xs, SqL.of (ov_own e)⟩
  · refine fun C H O σ w Q q => ha C H O σ w Q fun ds W' H' O' vs ⟨l, W1, W2, z, e3, e4, hl, r⟩ n k => q ds W' H' O' vs ?_ n k
    subst e3 e4
    intro C H O di oc ow x vs kx kv Q q
    have kx : x = .ref a := kx
    obtain ⟨v, r', ev, k1, er⟩ := kv
    have er : r' = [] := er
    subst kx ev er
    obtain ⟨xs, e, kl⟩ := own_lst ow
    refine ⟨a, xs, v, rfl, rfl, ov_own e, by rw [kl.len]; exact hl, ?_⟩
    obtain ⟨n2, e2⟩ := (Nx.refl di oc ow).write (o := .lst (xs ++ [v])) (od2 := .lst (l ++ [z])) ⟨_, rfl, kl.app (.one k1)⟩
    rw [e2]
    exact q .non _ _ _ _ r n2 rfl)
/-- l.pop() -/
theorem ev_pop {to : TE} (h : Ev F T to G W fun d W0 => ∃ a l W1 W2 z, d = .adr a ∧ W0 = W1 ++ (a, .lst (l ++ [z])) :: W2 ∧ R z (W1 ++ (a, .lst l) :: W2)) : Ev F T (tBM0 T.K "list" rPop to) G W R :=
  ev_bm0 (h.imp fun d W0 ⟨a, l, W1, W2, z, e1, e2, r⟩ => by
    subst e1 e2
    intro C H O di oc ow x kx
    have kx : x = .ref a := kx
    subst kx
    obtain ⟨xs, e, kl⟩ := own_lst ow
    refine ⟨.inl ⟨rfl, xs, SqL.of (ov_own e)⟩, fun Q q => ?_⟩
    obtain ⟨us, ws, e3, k1, k2⟩ := kl.app_inv
    obtain ⟨v, r', ev, kv, er⟩ := k2
    have er : r' = [] := er
    subst er ev e3
    refine ⟨a, _, v, rfl, rfl, ov_own e, by simp, ?_⟩
    rw [List.dropLast_concat]
    obtain ⟨n2, e2⟩ := (Nx.refl di oc ow).write (o := .lst us) (od2 := .lst l) ⟨_, rfl, k1⟩
    rw [e2]
    exact q z _ _ _ _ r n2 kv)
/-- l[i] = e -/
theorem sw_setL {to ti : TE} (h : Ev F T te G W fun z W1 => Ev F T to G W1 fun d W2 => Ev F T ti G W2 fun i W3 => ∃ a l j k Wa Wb, d = .adr a ∧ i = .int k ∧ W3 = Wa ++ (a, .lst l) :: Wb ∧ ixN l.length k = some j ∧ E.nx G (Wa ++ (a, .lst (l.set j z)) :: Wb)) :
    Sw F T (tAsg te (gSub to ti rSetL)) G W E := fun C H O σ w B b =>
  h C H O σ w _ fun z W1 H1 O1 v h1 n1 k1 => h1 C H1 O1 σ (w.step n1) _ fun d W2 H2 O2 x h2 n2 k2 => h2 C H2 O2 σ ((w.step n1).step n2) _ fun i W3 H3 O3 y ⟨a, l, j, k, Wa, Wb, e1, e2, e3, hj, r⟩ n3 k3 => by
    subst e1 e2 e3
    have k2 : x = .ref a := k2
    have k3 : y = .int k := k3
    subst k2 k3
    obtain ⟨xs, e, kl⟩ := own_lst n3.own
    refine ⟨a, xs, k, j, rfl, rfl, ov_own e, by rw [kl.len]; exact hj, ?_⟩
    have nn := (n1.trans n2).trans n3
    obtain ⟨n4, e4⟩ := nn.write (o := .lst (xs.set j v)) (od2 := .lst (l.set j z)) ⟨_, rfl, kl.set ((k1.mono n2.ext).mono n3.ext)⟩
    rw [e4]
    exact b.nx _ _ _ _ _ r n4 (w.loc.mono nn.ext)
theorem ei_list {tl : TE} {Z : List D → Om → Prop} (h : Ev F T tl G W fun d W1 => ∃ l, d = .lst l ∧ Z l W1) : EvI F T (iList T.K tl) G W Z := fun C H O σ w Q q =>
  h C H O σ w _ fun d W1 H1 O1 x ⟨l, e, z⟩ n k => by
    subst e
    obtain ⟨a, xs, ea, hs, kl⟩ := k
    subst ea
    have hs : SqL T.K H1 a xs := SqL.of hs
    refine ⟨a, rfl, ⟨xs, n.dis.same.seq hs⟩, q _ l W1 H1 O1 z n fun i H2 O2 s di => ⟨fun d hd => ?_, fun e => ⟨xs, di.same.seq (s.seq hs), by rw [kl.len, e]; exact Nat.le_refl _⟩⟩⟩
    obtain ⟨v, hv, kv⟩ := kl.get hd
    have hq : SqL T.K (ov O2 H2) a xs := di.same.seq (s.seq hs)
    refine ⟨⟨xs, v, hq, hv⟩, fun x X ⟨e, y⟩ => ⟨H2, Same.refl _, di, e, ?_⟩⟩
    have := y xs hq
    rw [hv] at this
    cases this
    exact kv.mono s
theorem ei_tup {tl : TE} {Z : List D → Om → Prop} (h : Ev F T tl G W fun d W1 => ∃ l, d = .tup l ∧ Z l W1) : EvI F T (iTup T.K tl) G W Z := fun C H O σ w Q q =>
  h C H O σ w _ fun d W1 H1 O1 x ⟨l, e, z⟩ n k => by
    subst e
    obtain ⟨a, xs, ea, hs, kl⟩ := k
    subst ea
    refine ⟨a, rfl, ⟨xs, Same.sqT n.dis.same hs⟩, q _ l W1 H1 O1 z n fun i H2 O2 s di => ⟨fun d hd => ?_, fun e => ⟨xs, Same.sqT di.same (Same.sqT s hs), by rw [kl.len, e]; exact Nat.le_refl _⟩⟩⟩
    obtain ⟨v, hv, kv⟩ := kl.get hd
    have hq : SqT T.K (ov O2 H2) a xs := Same.sqT di.same (Same.sqT s hs)
    refine ⟨⟨xs, v, hq, hv⟩, fun x X ⟨e, y⟩ => ⟨H2, Same.refl _, di, e, ?_⟩⟩
    have := y xs hq
    rw [hv] at this
    cases this
    exact kv.mono s
def rng (lo : Int) (n : Nat) : List D := (List.range n).map fun k => .int (lo + (k : Nat))
theorem rng_len (lo : Int) (n : Nat) : (rng lo n).length = n := by simp [rng]
theorem rng_get {lo : Int} {n i : Nat} {d : D} (h : (rng lo n)[i]? = some d) : i < n ∧ d = .int (lo + (i : Nat)) := by
  have hi : i < (rng lo n).length := (List.getElem?_eq_some_iff.mp h).1
  rw [rng_len] at hi
  refine ⟨hi, ?_⟩
  unfold rng at h
  rw [List.getElem?_map, List.getElem?_range hi] at h
  exact (Option.some.inj h).symm
theorem wk_rng {lo : Int} {n : Nat} : Wk F T (Itr lo n) H (rng lo n) := fun i H2 O2 s di => ⟨fun d hd => by
  obtain ⟨hi, e⟩ := rng_get hd
  subst e
  exact ⟨hi, fun x X ⟨e1, e2⟩ => ⟨H2, Same.refl _, di, e1, e2⟩⟩, fun e => by
  rw [rng_len] at e
  show n ≤ i
  omega⟩
theorem ei_rng1 {Z : List D → Om → Prop} (h : EvA F T tr G W fun ds W1 => ∃ j : Int, ds = [.int j] ∧ -(2 ^ 62) ≤ j ∧ j < 2 ^ 62 ∧ Z (rng 0 j.toNat) W1) : EvI F T (iRng1 tr) G W Z := fun C H O σ w Q q =>
  h C H O σ w _ fun ds W1 H1 O1 vs ⟨j, e, h1, h2, z⟩ n k => by
    subst e
    have k := DenL.vls_inv (ws := [.int j]) k
    subst k
    exact ⟨j, rfl, h1, h2, q _ _ W1 H1 O1 z n wk_rng⟩
end
end N
set_option Elab.async false
set_option linter.all false
set_option maxRecDepth 100000
namespace N
open PySem L2
/-- a promise: data of the arguments, owned cells handed in, what is wanted behind -/
abbrev FS := List D → Om → (D → Om → Prop) → Prop
section
variable (F : FmKit) (T : Kx)
def spN (S : FS) : Sp := fun vs X Q _ => ∃ (ds : List D) (W : Om) (C H O : Hp) (post : D → Om → Prop), X = ov O H ∧ Dis O H ∧ Same C O ∧ Ow F T H C O W ∧ DenL F T H ds vs ∧ S ds W post ∧
  ∀ d W' H' O' v, post d W' → Nx F T C W' H H' O' → Den F T H' d v → Q v (ov O' H')
end
section
variable {F : FmKit} {T : Kx} {C H H' O O' : Hp} {G : Gm} {W W' : Om} {σ : St} {a p : Addr} {od : OD} {d : D} {l : List D}
  {te ta tb : TE} {t u : TT} {R R' : D → Om → Prop} {Z : Bool → Om → Prop} {tr tk : TA} {ts tz : TS} {E : XK} {En1 : En} {S : FS}
/-- a part of what is owned is handed in, the rest stands behind -/
theorem run_sp {ds : List D} {vs : List V} {Wc Wf : Om} {Q : VK} (di : Dis O H) (oc : Same C O) (ow : Ow F T H C O (Wc ++ Wf)) (k : DenL F T H ds vs) (h : S ds Wc fun d W' => R d (W' ++ Wf))
    (q : ∀ d W' H' O' v, R d W' → Nx F T C W' H H' O' → Den F T H' d v → Q v (ov O' H')) : spN F T S vs (ov O H) Q E := by
  have nd := ow.nd
  have nd2 : (akeys Wc ++ akeys Wf).Nodup := by
    have e : akeys (Wc ++ Wf) = akeys Wc ++ akeys Wf := by simp [akeys]
    rw [← e]
    exact nd
  rw [List.nodup_append] at nd2
  obtain ⟨ndc, ndf, dj⟩ := nd2
  have inF : ∀ b, b ∈ akeys Wf → ∃ od, (b, od) ∈ Wf := fun b hb => by
    obtain ⟨x, hx, e⟩ := List.mem_map.mp hb
    exact ⟨x.2, by rw [← e]; exact hx⟩
  have atF : ∀ b od, (b, od) ∈ Wf → C b = none ∧ OdAt F T H (O b) od := fun b od m => ow.at_ b od (List.mem_append_right _ m)
  refine ⟨ds, Wc, fun b => if b ∈ akeys Wf then O b else C b, H, O, _, rfl, di, fun b o e => ?_, ⟨ndc, fun a od m => ?_⟩, k, h, fun d W' H' O' v r n kd => q d (W' ++ Wf) H' O' v r ⟨n.ext, n.dis, fun b o e => ?_, ⟨?_, fun a od m => ?_⟩⟩ kd⟩
  · by_cases hb : b ∈ akeys Wf
    · simp only [if_pos hb] at e
      exact e
    · simp only [if_neg hb] at e
      exact oc b o e
  · have hn : a ∉ akeys Wf := fun z => dj a (mem_akeys m) a z rfl
    rw [if_neg hn]
    exact ow.at_ a od (List.mem_append_left _ m)
  · refine n.oc b o ?_
    by_cases hb : b ∈ akeys Wf
    · obtain ⟨od, m⟩ := inF b hb
      rw [(atF b od m).1] at e
      cases e
    · rw [if_neg hb]
      exact e
  · have e : akeys (W' ++ Wf) = akeys W' ++ akeys Wf := by simp [akeys]
    rw [e, List.nodup_append]
    refine ⟨n.own.nd, ndf, fun x hx y hy exy => ?_⟩
    subst exy
    obtain ⟨z, hz, ez⟩ := List.mem_map.mp hx
    have h1 := (n.own.at_ z.1 z.2 hz).1
    rw [ez, if_pos hy] at h1
    obtain ⟨od, m⟩ := inF _ hy
    obtain ⟨o, eo⟩ := (atF _ od m).2.some
    rw [h1] at eo
    cases eo
  · rcases List.mem_append.mp m with m | m
    · obtain ⟨h1, h2⟩ := n.own.at_ a od m
      refine ⟨?_, h2⟩
      by_cases hb : a ∈ akeys Wf
      · obtain ⟨od', m'⟩ := inF a hb
        exact (atF a od' m').1
      · rw [if_neg hb] at h1
        exact h1
    · obtain ⟨h1, h2⟩ := atF a od m
      obtain ⟨o, eo⟩ := h2.some
      have e2 : O' a = some o := n.oc a o (by rw [if_pos (mem_akeys (x := (a, od)) m)]; exact eo)
      rw [eo] at h2
      rw [e2]
      exact ⟨h1, h2.mono n.ext⟩
/-- what a call asks: the part of the owned cells that is handed in, the promise -/
def Hand (S : FS) (ds : List D) (W : Om) (R : D → Om → Prop) : Prop := ∃ Wc Wf, W.Perm (Wc ++ Wf) ∧ S ds Wc fun d W' => R d (W' ++ Wf)
theorem hand0 {ds : List D} (h : S ds [] fun d W' => R d (W' ++ W)) : Hand S ds W R := ⟨[], W, List.Perm.refl _, h⟩
theorem handA {ds : List D} (h : S ds W R) : Hand S ds W R := ⟨W, [], by rw [List.append_nil], by simpa only [List.append_nil] using h⟩
theorem Hand.run {ds : List D} {vs : List V} {Q : VK} (h : Hand S ds W R) (di : Dis O H) (oc : Same C O) (ow : Ow F T H C O W) (k : DenL F T H ds vs) (q : ∀ d W' H' O' v, R d W' → Nx F T C W' H H' O' → Den F T H' d v → Q v (ov O' H')) :
    spN F T S vs (ov O H) Q E := by
  obtain ⟨Wc, Wf, hp, hs⟩ := h
  exact run_sp di oc (ow.perm hp) k hs q
theorem ev_call {dvs : List V} (h : EvA F T tr G W fun ds W1 => Hand S (ds ++ dvs.map D.vl) W1 R) : Ev F T (tCall (spN F T S) dvs E tr) G W R := fun C H O σ w Q q =>
  h C H O σ w _ fun ds W1 H1 O1 vs h1 n k => h1.run n.dis n.oc n.own (k.app (.vls dvs)) fun d W' H' O' v r n2 kd => q d W' H' O' v r (n.trans n2) kd
def fmVals (F : FmKit) (f : Fm) : List D := [.str (F.kind f), .tup (partsD f), .int (F.many f), .int (F.deep f), .str (F.atoms f), .str (F.bare f), .str (F.spell f), .tup ((F.alls f).map .fm)]
inductive Inst (F : FmKit) (W : Om) : D → Nat → List Str → List D → Prop
  | fm (f : Fm) : Inst F W (.fm f) 0 fmNames (fmVals F f)
  | obj (c : Nat) (ns : List Str) (l : List D) : Inst F W (.obj c ns l) c ns l
  | own (a : Addr) (c : Nat) (ns : List Str) (l : List D) : (a, .ins c ns l) ∈ W → Inst F W (.adr a) c ns l
theorem parts_den : ∀ {f : Fm} {ps : List V}, PartsR (FormAt F T H) f ps → DenL F T H (partsD f) ps
  | .at c, _, h => by
    have h : _ = _ := h
    subst h
    exact .one rfl
  | .no, _, h => h
  | .imp a b, _, ⟨p, q, e, h1, h2⟩ => by
    subst e
    exact ⟨_, _, rfl, ⟨p, rfl, h1⟩, .one ⟨q, rfl, h2⟩⟩
  | .all a, _, ⟨p, e, h1⟩ => by
    subst e
    exact .one ⟨p, rfl, h1⟩
theorem alls_den : ∀ {as : List Addr} {fs : List Fm}, AllR (FormAt F T H) as fs → DenL F T H (fs.map .fm) (as.map V.ref)
  | [], _, h => by
    have h : _ = _ := h
    subst h
    rfl
  | a :: as, _, ⟨f, r, e, h1, h2⟩ => by
    subst e
    exact ⟨_, _, rfl, ⟨a, rfl, h1⟩, alls_den h2⟩
theorem Inst.at {c : Nat} {ns : List Str} {x : V} (i : Inst F W d c ns l) (di : Dis O H) (ow : Ow F T H C O W) (k : Den F T H d x) : ∃ a dx fs, x = .ref a ∧ ov O H a = some (.ins (T.cl c) dx fs) ∧ fs.map (·.1) = ns ∧ DenL F T H l (fs.map (·.2)) := by
  cases i with
  | fm f =>
    obtain ⟨a, e, fa⟩ := k
    obtain ⟨dx, pa, ps, al, as, h1, h2, h3, h4, h5⟩ := fa.out
    exact ⟨a, dx, _, e, di.same _ _ h1, rfl, _, _, rfl, rfl, _, _, rfl, ⟨pa, ps, rfl, h2, parts_den h3⟩, _, _, rfl, rfl, _, _, rfl, rfl, _, _, rfl, rfl, _, _, rfl, rfl, _, _, rfl, rfl, _, _, rfl, ⟨al, _, rfl, h4, alls_den h5⟩, rfl⟩
  | obj c ns l =>
    obtain ⟨a, dx, fs, e, h1, h2, h3⟩ := k
    exact ⟨a, dx, fs, e, di.same _ _ h1, h2, h3⟩
  | own a c ns l m =>
    obtain ⟨_, dx, fs, h1, h2, h3⟩ := ow.at_ a _ m
    exact ⟨a, dx, fs, k, ov_own h1, h2, h3⟩
theorem look_zip : ∀ {fs : List (Str × V)} {l : List D} {n : Str} {z : D}, DenL F T H l (fs.map (·.2)) → ((fs.map (·.1)).zip l).lookup n = some z → ∃ v, fs.lookup n = some v ∧ Den F T H z v
  | [], l, n, z, _, e => by simp at e
  | (m, v) :: fs, [], n, z, k, e => by simp at e
  | (m, v) :: fs, d :: l, n, z, ⟨w, r, e1, k1, k2⟩, e => by
    rw [List.map_cons] at e1
    obtain ⟨rfl, rfl⟩ := List.cons.inj e1
    rw [List.map_cons, List.zip_cons_cons, List.lookup_cons] at e
    rw [List.lookup_cons]
    cases q : n == m with
    | true =>
      rw [q] at e
      have e : d = z := Option.some.inj e
      subst e
      exact ⟨v, rfl, k1⟩
    | false =>
      rw [q] at e
      exact look_zip k2 e
theorem look_none : ∀ {fs : List (Str × V)} {n : Str}, n ∉ fs.map (·.1) → fs.lookup n = none
  | [], _, _ => rfl
  | (m, v) :: fs, n, h => by
    rw [List.map_cons, List.mem_cons, not_or] at h
    rw [List.lookup_cons, beq_eq_false_iff_ne.mpr h.1]
    exact look_none h.2
/-- o.f -/
theorem ev_fld {n : Str} (h : Ev F T ta G W fun d W1 => ∃ c ns l z, Inst F W1 d c ns l ∧ Cls T.K (T.cl c) ∧ NoAttr T.K (T.cl c) n ∧ (ns.zip l).lookup n = some z ∧ R z W1) : Ev F T (tFld T.K ta n) G W R := fun C H O σ w Q q =>
  h C H O σ w _ fun d W1 H1 O1 x ⟨c, ns, l, z, i, hc, hn, hl, r⟩ n1 k => by
    obtain ⟨a, dx, fs, e, h1, h2, h3⟩ := i.at n1.dis n1.own k
    subst h2
    obtain ⟨v, hv, kv⟩ := look_zip h3 hl
    exact ⟨a, _, dx, fs, v, e, h1, hc, hn, hv, q z W1 H1 O1 v r n1 kv⟩
/-- o.m(..) -/
theorem ev_meth {c : Nat} {m : Str} {dvs : List V} (h : Ev F T ta G W fun d W1 => ∃ ns l, Inst F W1 d c ns l ∧ m ∉ ns ∧ EvA F T tr G W1 fun ds W2 => Hand S (d :: (ds ++ dvs.map D.vl)) W2 R) : Ev F T (tMeth (T.cl c) m (spN F T S) dvs E ta tr) G W R := fun C H O σ w Q q =>
  h C H O σ w _ fun d W1 H1 O1 x ⟨ns, l, i, hm, ha⟩ n1 k1 => by
    obtain ⟨a, dx, fs, e, h1, h2, h3⟩ := i.at n1.dis n1.own k1
    refine ⟨a, dx, fs, e, h1, look_none (by rw [h2]; exact hm), ha C H1 O1 σ (w.step n1) _ fun ds W2 H2 O2 vs hh n2 k2 => ?_⟩
    exact hh.run n2.dis n2.oc n2.own ⟨x, _, rfl, k1.mono n2.ext, k2.app (.vls dvs)⟩ fun d W' H' O' v r n3 kd => q d W' H' O' v r ((n1.trans n2).trans n3) kd
theorem ev_prop {c : Nat} {dvs : List V} (h : Ev F T ta G W fun d W1 => ∃ ns l, Inst F W1 d c ns l ∧ Hand S (d :: dvs.map D.vl) W1 R) : Ev F T (tProp (T.cl c) (spN F T S) dvs E ta) G W R := fun C H O σ w Q q =>
  h C H O σ w _ fun d W1 H1 O1 x ⟨ns, l, i, hh⟩ n1 k1 => by
    obtain ⟨a, dx, fs, e, h1, h2, h3⟩ := i.at n1.dis n1.own k1
    subst e
    exact ⟨a, dx, fs, rfl, h1, hh.run n1.dis n1.oc n1.own ⟨_, _, rfl, k1, .vls dvs⟩ fun d W' H' O' v r n3 kd => q d W' H' O' v r (n1.trans n3) kd⟩
/-- C(..) -/
theorem run_make {c : Nat} {ds : List D} {vs : List V} {x dx : Addr} {Q : VK} (n : Nx F T C W H H' O') (k : DenL F T H' ds vs) (h : ∀ x, x ∉ akeys W → Hand S (.adr x :: ds) ((x, .ins c [] []) :: W) fun d W' => d = .non ∧ R (.adr x) W')
    (hx : ov O' H' x = none) (hdx : ov O' H' dx = none) (ne : dx ≠ x) (q : ∀ d W2 H2 O2 v, R d W2 → Nx F T C W2 H H2 O2 → Den F T H2 d v → Q v (ov O2 H2)) :
    spN F T S (.ref x :: vs) (upd (upd (ov O' H') dx (.own x)) x (.ins (T.cl c) dx [])) (fun v H2 => v = .non ∧ Q (.ref x) H2) E := by
  obtain ⟨n2, e2, s2⟩ := n.newF (o := .own x) hdx
  rw [e2]
  have hx2 : ov O' (upd H' dx (.own x)) x = none := by rw [← e2, upd_ne ne.symm]; exact hx
  obtain ⟨n3, e3, np⟩ := n2.newO (od := .ins c [] []) (o := .ins (T.cl c) dx []) hx2 ⟨dx, [], rfl, rfl, rfl⟩
  rw [e3]
  refine (h x np).run n3.dis n3.oc n3.own ⟨_, _, rfl, rfl, k.mono s2⟩ fun d W' H2 O2 v ⟨e, r⟩ n4 kd => ?_
  subst e
  exact ⟨kd, q (.adr x) W' H2 O2 _ r (n3.trans n4) rfl⟩
theorem ev_makeR {c : Nat} (h : EvA F T tr G W fun ds W1 => ∀ x, x ∉ akeys W1 → Hand S (.adr x :: ds) ((x, .ins c [] []) :: W1) fun d W' => d = .non ∧ R (.adr x) W') : Ev F T (StX.tMakeR (T.cl c) (spN F T S) E tr) G W R := fun C H O σ w Q q =>
  h C H O σ w _ fun ds W1 H1 O1 vs h1 n k x dx hx hdx ne => run_make n k h1 hx hdx ne q
theorem putF_new : ∀ {fs : List (Str × V)} {n : Str} {v : V}, n ∉ fs.map (·.1) → putF n v fs = fs ++ [(n, v)]
  | [], _, _, _ => rfl
  | (m, x) :: fs, n, v, h => by
    rw [List.map_cons, List.mem_cons, not_or] at h
    unfold putF
    rw [if_neg (fun e => h.1 e.symm), putF_new h.2]
    rfl
theorem putF_at : ∀ {fs : List (Str × V)} {n : Str} {v : V} {j : Nat}, (fs.map (·.1)).Nodup → (fs.map (·.1))[j]? = some n → (putF n v fs).map (·.1) = fs.map (·.1) ∧ (putF n v fs).map (·.2) = (fs.map (·.2)).set j v
  | [], _, _, j, _, e => by simp at e
  | (m, x) :: fs, n, v, 0, nd, e => by
    have e : m = n := Option.some.inj e
    unfold putF
    rw [if_pos e]
    exact ⟨rfl, rfl⟩
  | (m, x) :: fs, n, v, j + 1, nd, e => by
    rw [List.map_cons, List.nodup_cons] at nd
    rw [List.map_cons, List.getElem?_cons_succ] at e
    have hne : m ≠ n := fun q => nd.1 (by rw [q]; exact List.mem_of_getElem? e)
    obtain ⟨h1, h2⟩ := putF_at (v := v) nd.2 e
    unfold putF
    rw [if_neg hne]
    refine ⟨?_, ?_⟩
    · rw [List.map_cons, List.map_cons, h1]
    · rw [List.map_cons, List.map_cons, h2]
      rfl
/-- n of an instance set: a new attribute, or the j-th one -/
inductive Put (n : Str) (z : D) : List Str → List D → List Str → List D → Prop
  | new (ns : List Str) (l : List D) : n ∉ ns → Put n z ns l (ns ++ [n]) (l ++ [z])
  | at (ns : List Str) (l : List D) (j : Nat) : ns.Nodup → ns[j]? = some n → Put n z ns l ns (l.set j z)
theorem Put.odat {n : Str} {z : D} {ns ns' : List Str} {l' : List D} {c : Nat} {dx : Addr} {fs : List (Str × V)} {v : V} (h : Put n z ns l ns' l') (e : fs.map (·.1) = ns) (k : DenL F T H l (fs.map (·.2))) (kz : Den F T H z v) : OdAt F T H (some (.ins (T.cl c) dx (putF n v fs))) (.ins c ns' l') := by
  cases h with
  | new hn =>
    refine ⟨dx, _, rfl, ?_, ?_⟩
    · rw [putF_new (by rw [e]; exact hn), List.map_append, e]
      rfl
    · rw [putF_new (by rw [e]; exact hn), List.map_append]
      exact k.app (.one kz)
  | «at» j nd hj =>
    obtain ⟨h1, h2⟩ := putF_at (v := v) (by rw [e]; exact nd) (by rw [e]; exact hj)
    refine ⟨dx, _, rfl, by rw [h1, e], ?_⟩
    rw [h2]
    exact k.set kz
def gFld (K : PySem.W.Frag) (ta : TE) (f : Str) : TG := fun y σ H Q => ta σ H fun x H2 => ∃ a C dx fs, x = .ref a ∧ H2 a = some (.ins C dx fs) ∧ Cls K C ∧ NoAttr K C f ∧ fs.length < 1000 ∧ Q σ (upd H2 a (.ins C dx (putF f y fs)))
/-- the receiver of a store -/
def Rcv (F : FmKit) (T : Kx) (d z : D) (n : Str) (W : Om) (R : Om → Prop) : Prop := ∃ a c ns l W1 W2 ns' l', d = .adr a ∧ W = W1 ++ (a, .ins c ns l) :: W2 ∧ Cls T.K (T.cl c) ∧ NoAttr T.K (T.cl c) n ∧ ns.length < 1000 ∧ Put n z ns l ns' l' ∧ R (W1 ++ (a, .ins c ns' l') :: W2)
theorem Rcv.run {x y : V} {z : D} {n : Str} {RW : Om → Prop} (h : Rcv F T d z n W RW) (nx : Nx F T C W H H' O') (kx : Den F T H' d x) (ky : Den F T H' z y) : ∃ a C' dx fs, x = .ref a ∧ ov O' H' a = some (.ins C' dx fs) ∧ Cls T.K C' ∧ NoAttr T.K C' n ∧ fs.length < 1000 ∧
    ∃ W2 O2, RW W2 ∧ Nx F T C W2 H H' O2 ∧ upd (ov O' H') a (.ins C' dx (putF n y fs)) = ov O2 H' := by
  obtain ⟨a, c, ns, l, W1, W2, ns', l', e1, e2, hc, hn, hl, hp, r⟩ := h
  subst e1 e2
  have kx : x = .ref a := kx
  obtain ⟨_, dx, fs, h1, h2, h3⟩ := nx.own.at_ a _ (List.mem_append_right _ List.mem_cons_self)
  obtain ⟨n2, e⟩ := nx.write (o := .ins (T.cl c) dx (putF n y fs)) (hp.odat h2 h3 ky)
  have hl2 : fs.length = ns.length := by rw [← h2, List.length_map]
  exact ⟨a, _, dx, fs, kx, ov_own h1, hc, hn, by rw [hl2]; exact hl, _, _, r, n2, e⟩
/-- o.f = e -/
theorem sw_fld {n : Str} (h : Ev F T tb G W fun z W1 => Ev F T ta G W1 fun d W2 => Rcv F T d z n W2 (En1.nx G)) : Sw F T (sFld T.K ta tb n) G W En1 := fun C H O σ w B b =>
  h C H O σ w _ fun z W1 H1 O1 y h1 n1 k1 => h1 C H1 O1 σ (w.step n1) _ fun d W2 H2 O2 x hr n2 k2 => by
    obtain ⟨a, C', dx, fs, e, h1, hc, hn, hl, W3, O3, r, n3, e3⟩ := hr.run (n1.trans n2) k2 (k1.mono n2.ext)
    refine ⟨a, C', dx, fs, e, h1, hc, hn, hl, ?_⟩
    rw [e3]
    exact b.nx G W3 _ _ σ r n3 (w.loc.mono (n1.trans n2).ext)
/-- a target of any form: slots and owned cells may change -/
def Ta (F : FmKit) (T : Kx) (g : TG) (d : D) (G : Gm) (W : Om) (R : Gm → Om → Prop) : Prop :=
  ∀ (C H O : Hp) (σ : St), Wd F T C G W H O σ → ∀ v, Den F T H d v → ∀ Q : St → Hp → Prop, (∀ G' W' H' O' σ', R G' W' → Nx F T C W' H H' O' → Lo F T H' G' σ' → Q σ' (ov O' H')) → g v σ (ov O H) Q
def Tas (F : FmKit) (T : Kx) (g : TGs) (ds : List D) (G : Gm) (W : Om) (R : Gm → Om → Prop) : Prop :=
  ∀ (C H O : Hp) (σ : St), Wd F T C G W H O σ → ∀ vs, DenL F T H ds vs → ∀ Q : St → Hp → Prop, (∀ G' W' H' O' σ', R G' W' → Nx F T C W' H H' O' → Lo F T H' G' σ' → Q σ' (ov O' H')) → g vs σ (ov O H) Q
theorem ta_fld {n : Str} {RR : Gm → Om → Prop} (h : Ev F T ta G W fun x W2 => Rcv F T x d n W2 (RR G)) : Ta F T (gFld T.K ta n) d G W RR := fun C H O σ w v k Q q =>
  h C H O σ w _ fun x W2 H2 O2 y hr n2 k2 => by
    obtain ⟨a, C', dx, fs, e, h1, hc, hn, hl, W3, O3, r, n3, e3⟩ := hr.run n2 k2 (k.mono n2.ext)
    refine ⟨a, C', dx, fs, e, h1, hc, hn, hl, ?_⟩
    rw [e3]
    exact q G W3 _ _ σ r n3 (w.loc.mono n2.ext)
theorem ta_tg {g : TG} {RR : Gm → Om → Prop} (h : Tg F T g d G fun G' => RR G' W) : Ta F T g d G W RR := fun C H O σ w v k Q q =>
  h H _ σ v w.loc w.dis.same k _ fun G' σ' r l => q G' W H O σ' r w.nx l
theorem ta_name {i : Nat} {RR : Gm → Om → Prop} (h : RR (G.set i (some d)) W) : Ta F T (gName i) d G W RR := ta_tg (tg_name h)
theorem tas_nil {RR : Gm → Om → Prop} (h : RR G W) : Tas F T gNil [] G W RR := fun C H O σ w v k Q q => ⟨k, q G W H O σ h w.nx w.loc⟩
theorem tas_cons {g : TG} {gs : TGs} {ds : List D} {RR : Gm → Om → Prop} (h : Ta F T g d G W fun G' W' => Tas F T gs ds G' W' RR) : Tas F T (gCons g gs) (d :: ds) G W RR := fun C H O σ w vs k Q q => by
  obtain ⟨v, r, ev, k1, k2⟩ := k
  exact ⟨v, r, ev, h C H O σ w v k1 _ fun G1 W1 H1 O1 σ1 hh n1 l1 => hh C H1 O1 σ1 ⟨n1.dis, n1.oc, l1, n1.own⟩ r (k2.mono n1.ext) Q fun G2 W2 H2 O2 σ2 r2 n2 l2 => q G2 W2 H2 O2 σ2 r2 (n1.trans n2) l2⟩
theorem ta_tup {n : Nat} {gs : TGs} {ds : List D} {RR : Gm → Om → Prop} (hn : ds.length = n) (h : Tas F T gs ds G W RR) : Ta F T (gTup T.K n gs) (.tup ds) G W RR := fun C H O σ w v k Q q => by
  obtain ⟨a, xs, ev, hs, kl⟩ := k
  exact ⟨a, xs, ev, Same.sqT w.dis.same hs, by rw [kl.len, hn], h C H O σ w xs kl Q q⟩
theorem sw_asgA {g : TG} (h : Ev F T te G W fun d W' => Ta F T g d G W' fun G2 W2 => En1.nx G2 W2) : Sw F T (tAsg te g) G W En1 := fun C H O σ w B b =>
  h C H O σ w _ fun d W' H' O' v r n k => r C H' O' σ (w.step n) v k _ fun G2 W2 H2 O2 σ2 r2 n2 l2 => b.nx G2 W2 H2 O2 σ2 r2 (n.trans n2) l2
theorem sw_asg2 {g1 g2 : TG} (h : Ev F T te G W fun d W' => Ta F T g1 d G W' fun G2 W2 => Ta F T g2 d G2 W2 fun G3 W3 => En1.nx G3 W3) : Sw F T (tAsg2 te g1 g2) G W En1 := fun C H O σ w B b =>
  h C H O σ w _ fun d W' H' O' v r n k => r C H' O' σ (w.step n) v k _ fun G2 W2 H2 O2 σ2 r2 n2 l2 => r2 C H2 O2 σ2 ⟨n2.dis, n2.oc, l2, n2.own⟩ v (k.mono n2.ext) _ fun G3 W3 H3 O3 σ3 r3 n3 l3 => b.nx G3 W3 H3 O3 σ3 r3 ((n.trans n2).trans n3) l3
theorem sw_asg3 {g1 g2 g3 : TG} (h : Ev F T te G W fun d W' => Ta F T g1 d G W' fun G2 W2 => Ta F T g2 d G2 W2 fun G3 W3 => Ta F T g3 d G3 W3 fun G4 W4 => En1.nx G4 W4) : Sw F T (tAsg3 te g1 g2 g3) G W En1 := fun C H O σ w B b =>
  h C H O σ w _ fun d W' H' O' v r n k => r C H' O' σ (w.step n) v k _ fun G2 W2 H2 O2 σ2 r2 n2 l2 => r2 C H2 O2 σ2 ⟨n2.dis, n2.oc, l2, n2.own⟩ v (k.mono n2.ext) _ fun G3 W3 H3 O3 σ3 r3 n3 l3 =>
    r3 C H3 O3 σ3 ⟨n3.dis, n3.oc, l3, n3.own⟩ v ((k.mono n2.ext).mono n3.ext) _ fun G4 W4 H4 O4 σ4 r4 n4 l4 => b.nx G4 W4 H4 O4 σ4 r4 (((n.trans n2).trans n3).trans n4) l4
end
end N
set_option Elab.async false
set_option linter.all false
set_option maxRecDepth 100000
namespace N
open PySem L2
def wipeG (G : Gm) : List Nat → Gm
  | [] => G
  | v :: vs => (wipeG G vs).set v none
theorem wipe_at {σ : St} {i : Nat} : ∀ {vs : List Nat}, (wipe σ vs)[i]? = if i ∈ vs then (σ[i]?).map (fun _ => none) else σ[i]?
  | [] => by simp [wipe]
  | v :: vs => by
    unfold wipe
    have ih := wipe_at (σ := σ) (i := i) (vs := vs)
    rw [List.getElem?_set]
    by_cases h : v = i
    · subst h
      rw [if_pos rfl, if_pos (List.mem_cons_self)]
      rw [wipe_length]
      by_cases hl : v < σ.length
      · rw [if_pos hl, List.getElem?_eq_getElem hl]
        rfl
      · rw [if_neg hl, List.getElem?_eq_none (by omega)]
        rfl
    · rw [if_neg h, ih]
      have : (i ∈ v :: vs) ↔ (i ∈ vs) := by
        rw [List.mem_cons]
        exact ⟨fun z => z.elim (fun q => absurd q.symm h) id, .inr⟩
      by_cases hm : i ∈ vs
      · rw [if_pos hm, if_pos (this.mpr hm)]
      · rw [if_neg hm, if_neg (fun z => hm (this.mp z))]
theorem wipe_wipe {σ : St} {vs : List Nat} : wipe (wipe σ vs) vs = wipe σ vs := by
  apply List.ext_getElem?
  intro i
  rw [wipe_at, wipe_at]
  by_cases h : i ∈ vs
  · simp [h]
    rfl
  · simp [h]
theorem wipe_set {σ : St} {vs : List Nat} {i : Nat} {x : Option V} (h : i ∈ vs) : wipe (σ.set i x) vs = wipe σ vs := by
  apply List.ext_getElem?
  intro j
  rw [wipe_at, wipe_at]
  by_cases hj : j ∈ vs
  · rw [if_pos hj, if_pos hj, List.getElem?_set]
    by_cases e : i = j
    · subst e
      rw [if_pos rfl]
      by_cases hl : i < σ.length
      · rw [if_pos hl, List.getElem?_eq_getElem hl]
        rfl
      · rw [if_neg hl, List.getElem?_eq_none (by omega)]
    · rw [if_neg e]
  · rw [if_neg hj, if_neg hj, List.getElem?_set_ne (fun (e : i = j) => hj (e ▸ h))]
section
variable {F : FmKit} {T : Kx} {C H H' O O' : Hp} {G : Gm} {W W' : Om} {σ : St} {a p : Addr} {d : D} {l : List D}
  {te ta tb tv : TE} {t u : TT} {R R' : D → Om → Prop} {Z : Bool → Om → Prop} {tr tk : TA} {ts tz : TS}
theorem Lo.wipe (lo : Lo F T H G σ) : ∀ vs : List Nat, Lo F T H (wipeG G vs) (wipe σ vs)
  | [] => lo
  | v :: vs => (Lo.wipe lo vs).forget none
/-- a target of the comprehension's own names -/
def Tw (F : FmKit) (T : Kx) (vs : List Nat) (g : TG) (d : D) (G : Gm) (R : Gm → Prop) : Prop :=
  ∀ (H H1 : Hp) (σ : St) (v : V), Lo F T H G σ → Same H H1 → Den F T H d v → ∀ Q : St → Hp → Prop, (∀ G' σ', R G' → Lo F T H G' σ' → wipe σ' vs = wipe σ vs → Q σ' H1) → g v σ H1 Q
def Tws (F : FmKit) (T : Kx) (vs : List Nat) (g : TGs) (ds : List D) (G : Gm) (R : Gm → Prop) : Prop :=
  ∀ (H H1 : Hp) (σ : St) (us : List V), Lo F T H G σ → Same H H1 → DenL F T H ds us → ∀ Q : St → Hp → Prop, (∀ G' σ', R G' → Lo F T H G' σ' → wipe σ' vs = wipe σ vs → Q σ' H1) → g us σ H1 Q
variable {vs : List Nat} {Y : Gm → Prop}
theorem tw_name {i : Nat} (hi : i ∈ vs) (h : Y (G.set i (some d))) : Tw F T vs (gName i) d G Y := fun H H1 σ v l _ k Q q => q _ _ h (l.set k) (wipe_set hi)
theorem tws_nil (h : Y G) : Tws F T vs gNil [] G Y := fun H H1 σ v l _ k Q q => ⟨k, q _ _ h l rfl⟩
theorem tws_cons {g : TG} {gs : TGs} {ds : List D} (h : Tw F T vs g d G fun G' => Tws F T vs gs ds G' Y) : Tws F T vs (gCons g gs) (d :: ds) G Y := fun H H1 σ us l e k Q q => by
  obtain ⟨v, r, ev, k1, k2⟩ := k
  exact ⟨v, r, ev, h H H1 σ v l e k1 _ fun G' σ' hh l' w1 => hh H H1 σ' r l' e k2 Q fun G2 σ2 r2 l2 w2 => q G2 σ2 r2 l2 (w2.trans w1)⟩
theorem tw_tup {n : Nat} {gs : TGs} {ds : List D} (hn : ds.length = n) (h : Tws F T vs gs ds G Y) : Tw F T vs (gTup T.K n gs) (.tup ds) G Y := fun H H1 σ v l e k Q q => by
  obtain ⟨a, xs, ev, hs, kl⟩ := k
  exact ⟨a, xs, ev, Same.sqT e hs, by rw [kl.len, hn], h H H1 σ xs l e kl Q q⟩
/-- a hidden cell -/
theorem Nx.hide {o : HO} {Dp : Addr} {W1 : Om} {H1 : Hp} (n : Nx F T C W1 H H1 O') (hD : ov O' H1 Dp = none) : Nx F T (upd C Dp o) W1 H1 H1 (upd O' Dp o) ∧ upd (ov O' H1) Dp o = ov (upd O' Dp o) H1 ∧ C Dp = none := by
  obtain ⟨h1, h2⟩ := ov_none hD
  have cp : C Dp = none := by
    cases e : C Dp with
    | none => rfl
    | some x =>
      rw [n.oc Dp x e] at h1
      cases h1
  refine ⟨⟨Same.refl _, n.dis.updO h2, fun b x e => ?_, ⟨n.own.nd, fun b ob m => ?_⟩⟩, ov_updO, cp⟩
  · by_cases q : b = Dp
    · subst q
      rw [upd_same] at e ⊢
      exact e
    · rw [upd_ne q] at e ⊢
      exact n.oc b x e
  · have : b ≠ Dp := fun q => n.own.notin h1 (q ▸ mem_akeys (x := (b, ob)) m)
    rw [upd_ne this, upd_ne this]
    exact n.own.at_ b ob m
/-- the hidden cell is written -/
theorem Nx.rehide {o o' : HO} {Dp : Addr} {W2 : Om} {H1 H2 O2 : Hp} (n : Nx F T (upd C Dp o) W2 H1 H2 O2) (cp : C Dp = none) : Nx F T (upd C Dp o') W2 H1 H2 (upd O2 Dp o') ∧ upd (ov O2 H2) Dp o' = ov (upd O2 Dp o') H2 := by
  have hO : O2 Dp = some o := n.oc Dp o upd_same
  refine ⟨⟨n.ext, n.dis.updO (n.dis Dp o hO), fun b x e => ?_, ⟨n.own.nd, fun b ob m => ?_⟩⟩, ov_updO⟩
  · by_cases q : b = Dp
    · subst q
      rw [upd_same] at e ⊢
      exact e
    · rw [upd_ne q] at e
      rw [upd_ne q]
      exact n.oc b x (by rw [upd_ne q]; exact e)
  · obtain ⟨c1, c2⟩ := n.own.at_ b ob m
    have hb : b ≠ Dp := fun q => by
      rw [q, upd_same] at c1
      cases c1
    rw [upd_ne hb] at c1
    rw [upd_ne hb, upd_ne hb]
    exact ⟨c1, c2⟩
/-- the hidden cell comes out as an owned one -/
theorem Nx.show {o : HO} {od : OD} {Dp : Addr} {W2 : Om} {H1 H2 O2 : Hp} (n : Nx F T (upd C Dp o) W2 H1 H2 O2) (cp : C Dp = none) (h : OdAt F T H2 (some o) od) : Nx F T C ((Dp, od) :: W2) H1 H2 O2 ∧ Dp ∉ akeys W2 := by
  have hO : O2 Dp = some o := n.oc Dp o upd_same
  have nin : Dp ∉ akeys W2 := fun z => by
    obtain ⟨x, hx, e⟩ := List.mem_map.mp z
    have := (n.own.at_ x.1 x.2 hx).1
    rw [e, upd_same] at this
    cases this
  refine ⟨⟨n.ext, n.dis, fun b x e => n.oc b x (by rw [upd_ne (ne_of_none e cp)]; exact e), ⟨List.nodup_cons.mpr ⟨nin, n.own.nd⟩, fun b ob m => ?_⟩⟩, nin⟩
  rcases List.mem_cons.mp m with e | m
  · obtain ⟨rfl, rfl⟩ := Prod.mk.inj e
    rw [hO]
    exact ⟨cp, h⟩
  · obtain ⟨c1, c2⟩ := n.own.at_ b ob m
    have hb : b ≠ Dp := fun q => by
      rw [q, upd_same] at c1
      cases c1
    rw [upd_ne hb] at c1
    exact ⟨c1, c2⟩
/-- [e for .. in .. if ..] -/
theorem ev_lc {wi : TI} {g : TG} (h : EvI F T wi G W fun ds W1 => ∃ I : Nat → List D → Om → Prop, I 0 [] W1 ∧
      (∀ i d acc W', ds[i]? = some d → I i acc W' → Tw F T vs g d (wipeG G vs) fun G2 => EvT F T t G2 W' fun b W2 => if b = true then Ev F T te G2 W2 (fun z W3 => acc.length < sizeLine ∧ I (i + 1) (acc ++ [z]) W3) else I (i + 1) acc W2) ∧
      (∀ acc W', I ds.length acc W' → ∀ p, p ∉ akeys W' → R (.adr p) ((p, .lst acc) :: W'))) : Ev F T (tLc wi g t te vs) G W R := fun C H O σ w Q q =>
  h C H O σ w _ fun J ds W1 H1 O1 ⟨I, i0, turn, fin⟩ n1 wk Dp hD => by
    obtain ⟨n0, e0, cp⟩ := n1.hide (o := .lst []) hD
    refine ⟨fun i m X => m = ds.length - i ∧ i ≤ ds.length ∧ ∃ acc av W' H' O', X = ov O' H' ∧ Nx F T (upd C Dp (.lst av)) W' H1 H' O' ∧ DenL F T H' acc av ∧ I i acc W', ⟨ds.length, by simp, Nat.zero_le _, [], [], W1, H1, _, e0, n0, rfl, i0⟩, ?_⟩
    rintro i m X ⟨rfl, hi, acc, av, W', H', O', rfl, n, ka, ii⟩
    have k := wk i H' O' n.ext n.dis
    have lo1 := (w.loc.mono n1.ext).mono n.ext
    by_cases hlt : i < ds.length
    · obtain ⟨k1, k2⟩ := k.1 ds[i] (by simp [hlt])
      refine .inr ⟨k1, fun X2 => ∃ acc av W2 H2 O2, X2 = ov O2 H2 ∧ Nx F T (upd C Dp (.lst av)) W2 H1 H2 O2 ∧ DenL F T H2 acc av ∧ I (i + 1) acc W2, fun X2 y => ⟨ds.length - (i + 1), by omega, rfl, hlt, y⟩, fun x X2 y => ?_⟩
      obtain ⟨H2, s2, d2, rfl, kx⟩ := k2 x X2 y
      refine turn i ds[i] acc W' (by simp [hlt]) ii H2 _ _ x ((lo1.mono s2).wipe vs) d2.same kx _ fun G3 σ3 et l3 wz => ⟨wz.trans wipe_wipe, ?_⟩
      refine et (upd C Dp (.lst av)) H2 O' σ3 ⟨d2, n.oc, l3, n.own.mono s2⟩ _ fun b W3 H3 O3 r3 n3 => ?_
      have n03 : Nx F T (upd C Dp (.lst av)) W3 H1 H3 O3 := ⟨(n.ext.trans s2).trans n3.ext, n3.dis, n3.oc, n3.own⟩
      cases b with
      | false => exact ⟨acc, av, W3, H3, O3, rfl, n03, (ka.mono s2).mono n3.ext, r3⟩
      | true =>
        refine r3 (upd C Dp (.lst av)) H3 O3 σ3 ⟨n3.dis, n3.oc, l3.mono n3.ext, n3.own⟩ _ fun z W4 H4 O4 v ⟨hz, i4⟩ n4 k4 => ?_
        have hO : ov O4 H4 Dp = some (.lst av) := ov_own (n4.oc Dp _ upd_same)
        have ka4 := ((ka.mono s2).mono n3.ext).mono n4.ext
        refine ⟨av, hO, by rw [ka.len]; exact hz, ?_⟩
        obtain ⟨n5, e5⟩ := Nx.rehide (o' := .lst (av ++ [v])) (n03.trans n4) cp
        exact ⟨acc ++ [z], av ++ [v], W4, H4, _, e5, n5, ka4.app (.one k4), i4⟩
    · have e : i = ds.length := by omega
      subst e
      refine .inl ⟨k.2 rfl, ?_⟩
      obtain ⟨n6, np⟩ := n.show (od := .lst acc) cp ⟨av, rfl, ka⟩
      exact q (.adr Dp) _ H' O' _ (fin acc W' ii Dp np) (Nx.trans ⟨n1.ext, n1.dis, n1.oc, n1.own⟩ n6) rfl
theorem et_yes (h : Z true W) : EvT F T tYes G W Z := fun C H O σ w Q q => q true W H O h w.nx
def putG {α : Type} (ps : List (Key × α)) (k : Key) (z : α) : List (Key × α) := if (ps.any fun q => decide (q.1 = k)) = true then ps.map (fun q => if q.1 = k then (q.1, z) else q) else ps ++ [(k, z)]
theorem putG_V (kvs : List (Key × V)) (k : Key) (z : V) : putG kvs k z = putK kvs k z := rfl
/-- a dict of pairs -/
@[reducible] def OD.dp (ps : List (Key × D)) : OD := .dct (ps.map (·.1)) (ps.map (·.2))
@[reducible] def D.dp (ps : List (Key × D)) : D := .dct (ps.map (·.1)) (ps.map (·.2))
theorem any_keys {α β : Type} {k : Key} : ∀ {ps : List (Key × α)} {qs : List (Key × β)}, ps.map (·.1) = qs.map (·.1) → (ps.any fun q => decide (q.1 = k)) = qs.any fun q => decide (q.1 = k)
  | [], [], _ => rfl
  | [], q :: qs, h => by simp at h
  | p :: ps, [], h => by simp at h
  | p :: ps, q :: qs, h => by
    rw [List.map_cons, List.map_cons] at h
    obtain ⟨h1, h2⟩ := List.cons.inj h
    rw [List.any_cons, List.any_cons, any_keys h2, h1]
theorem putG_keys {α β : Type} {k : Key} {z : α} {y : β} {ps : List (Key × α)} {qs : List (Key × β)} (h : ps.map (·.1) = qs.map (·.1)) : (putG ps k z).map (·.1) = (putG qs k y).map (·.1) := by
  unfold putG
  rw [any_keys h]
  split
  · rw [List.map_map, List.map_map]
    have e1 : ∀ (α : Type) (z : α) (l : List (Key × α)), l.map ((·.1) ∘ fun q => if q.1 = k then (q.1, z) else q) = l.map (·.1) := fun α z l => List.map_congr_left fun q _ => by
      show (if q.1 = k then (q.1, z) else q).1 = q.1
      split <;> rfl
    rw [e1, e1, h]
  · rw [List.map_append, List.map_append, h]
    rfl
theorem putG_den {k : Key} {z : D} {y : V} (hz : Den F T H z y) : ∀ {ps : List (Key × D)} {kvs : List (Key × V)}, kvs.map (·.1) = ps.map (·.1) → DenL F T H (ps.map (·.2)) (kvs.map (·.2)) → DenL F T H ((putG ps k z).map (·.2)) ((putG kvs k y).map (·.2)) := by
  intro ps kvs h kl
  unfold putG
  rw [any_keys h]
  split
  · rename_i hh
    clear hh
    induction ps generalizing kvs with
    | nil =>
      cases kvs with
      | nil => exact kl
      | cons _ _ => simp at h
    | cons p ps ih =>
      cases kvs with
      | nil => simp at h
      | cons q qs =>
        rw [List.map_cons, List.map_cons] at h
        obtain ⟨h1, h2⟩ := List.cons.inj h
        obtain ⟨v, r, e, k1, k2⟩ := kl
        rw [List.map_cons] at e
        obtain ⟨e1, e2⟩ := List.cons.inj e
        subst e2
        refine ⟨_, _, rfl, ?_, ih h2 k2⟩
        show Den F T H (if p.1 = k then (p.1, z) else p).2 (if q.1 = k then (q.1, y) else q).2
        rw [h1]
        by_cases e : p.1 = k
        · rw [if_pos e, if_pos e]
          exact hz
        · rw [if_neg e, if_neg e, e1]
          exact k1
  · rw [List.map_append, List.map_append]
    exact kl.app (.one hz)
theorem putG_nodup {α : Type} {k : Key} {z : α} {ps : List (Key × α)} (h : (ps.map (·.1)).Nodup) : ((putG ps k z).map (·.1)).Nodup := by
  unfold putG
  split
  · rw [List.map_map]
    have e1 : ps.map ((·.1) ∘ fun q => if q.1 = k then (q.1, z) else q) = ps.map (·.1) := List.map_congr_left fun q _ => by
      show (if q.1 = k then (q.1, z) else q).1 = q.1
      split <;> rfl
    rw [e1]
    exact h
  · rename_i hn
    rw [List.map_append, List.nodup_append]
    refine ⟨h, by simp, fun x hx y hy e => hn ?_⟩
    have hy : y = k := by simpa using hy
    obtain ⟨q, hq, eq⟩ := List.mem_map.mp hx
    rw [List.any_eq_true]
    exact ⟨q, hq, by rw [eq, e, hy]; simp⟩
/-- what a dict gives -/
def getG {α : Type} (ps : List (Key × α)) (k : Key) : Option α := (ps.find? fun q => decide (q.1 = k)).map (·.2)
theorem getG_den {k : Key} : ∀ {ps : List (Key × D)} {kvs : List (Key × V)}, kvs.map (·.1) = ps.map (·.1) → DenL F T H (ps.map (·.2)) (kvs.map (·.2)) → (getG ps k = none ∧ valV kvs k = none) ∨ ∃ z v, getG ps k = some z ∧ valV kvs k = some v ∧ Den F T H z v
  | [], [], _, _ => .inl ⟨rfl, rfl⟩
  | [], q :: qs, h, _ => by simp at h
  | p :: ps, [], h, _ => by simp at h
  | p :: ps, q :: qs, h, kl => by
    rw [List.map_cons, List.map_cons] at h
    obtain ⟨h1, h2⟩ := List.cons.inj h
    obtain ⟨v, r, e, k1, k2⟩ := kl
    rw [List.map_cons] at e
    obtain ⟨e1, e2⟩ := List.cons.inj e
    subst e2
    unfold getG valV
    rw [List.find?_cons, List.find?_cons, h1]
    by_cases e : p.1 = k
    · rw [decide_eq_true e]
      exact .inr ⟨p.2, q.2, rfl, rfl, by rw [e1]; exact k1⟩
    · rw [decide_eq_false e]
      exact getG_den h2 k2
/-- d is a dict of ps: frozen, or owned -/
def Vd (W : Om) (d : D) (ps : List (Key × D)) : Prop := d = .dp ps ∨ ∃ a, d = .adr a ∧ (a, .dp ps) ∈ W
theorem Vd.at {x : V} {ps : List (Key × D)} (h : Vd W d ps) (di : Dis O H) (ow : Ow F T H C O W) (k : Den F T H d x) : ∃ a kvs, x = .ref a ∧ ov O H a = some (.dK kvs) ∧ kvs.map (·.1) = ps.map (·.1) ∧ (ps.map (·.1)).Nodup ∧ DenL F T H (ps.map (·.2)) (kvs.map (·.2)) := by
  rcases h with rfl | ⟨a, rfl, m⟩
  · obtain ⟨a, kvs, e, h1, h2, h3, h4⟩ := k
    exact ⟨a, kvs, e, di.same _ _ h1, h2, h3, h4⟩
  · obtain ⟨_, kvs, h1, h2, h3, h4⟩ := ow.at_ a _ m
    exact ⟨a, kvs, k, ov_own h1, h2, h3, h4⟩
/-- a key as a datum -/
def kD (k : Key) : D := .vl (kV k)
theorem ev_dnew (h : ∀ p, p ∉ akeys W → R (.adr p) ((p, .dp []) :: W)) : Ev F T tDNewK G W R := fun C H O σ w Q q p hp => by
  obtain ⟨n2, e, np⟩ := w.nx.newO (od := .dp []) (o := .dK []) hp ⟨[], rfl, rfl, List.nodup_nil, rfl⟩
  rw [e]
  exact q (.adr p) _ _ _ _ (h p np) n2 rfl
/-- d[k] -/
theorem ev_dget (h : Ev F T ta G W fun d W1 => Ev F T tb G W1 fun y W2 => ∃ ps k z, Vd W2 d ps ∧ y = kD k ∧ getG ps k = some z ∧ R z W2) : Ev F T (tDGet ta tb) G W R := fun C H O σ w Q q =>
  h C H O σ w _ fun d W1 H1 O1 x h1 n1 k1 => h1 C H1 O1 σ (w.step n1) _ fun y W2 H2 O2 yv ⟨ps, k, z, hv, ey, hg, r⟩ n2 k2 => by
    subst ey
    obtain ⟨a, kvs, ex, ha, e1, e2, kl⟩ := hv.at n2.dis n2.own (k1.mono n2.ext)
    have k2 : yv = kV k := k2
    subst ex k2
    rcases getG_den (k := k) e1 kl with ⟨g1, _⟩ | ⟨z', v, g1, g2, kz⟩
    · rw [g1] at hg
      cases hg
    · rw [g1] at hg
      cases hg
      exact ⟨a, v, rfl, .inl ⟨kvs, k, .inl ha, rfl, g2.symm⟩, q z W2 H2 O2 v r (n1.trans n2) kz⟩
/-- k in d, k not in d -/
theorem run_din {ps : List (Key × D)} {k : Key} {x yv : V} (hv : Vd W d ps) (di : Dis O H) (ow : Ow F T H C O W) (k2 : Den F T H d x) (k1 : yv = kV k) : ∃ a o, x = .ref a ∧ DGet (ov O H) a yv o ∧ o.isSome = (getG ps k).isSome := by
  obtain ⟨a, kvs, ex, ha, e1, e2, kl⟩ := hv.at di ow k2
  subst ex k1
  refine ⟨a, valV kvs k, rfl, .inl ⟨kvs, k, .inl ha, rfl, rfl⟩, ?_⟩
  rcases getG_den (k := k) e1 kl with ⟨g1, g2⟩ | ⟨z', v, g1, g2, kz⟩
  · rw [g1, g2]
    rfl
  · rw [g1, g2]
    rfl
theorem ev_dnotin (h : Ev F T tb G W fun y W1 => Ev F T ta G W1 fun d W2 => ∃ ps k, Vd W2 d ps ∧ y = kD k ∧ R (.bl (!(getG ps k).isSome)) W2) : Ev F T (tDNotIn tb ta) G W R := fun C H O σ w Q q =>
  h C H O σ w _ fun y W1 H1 O1 yv h1 n1 k1 => h1 C H1 O1 σ (w.step n1) _ fun d W2 H2 O2 x ⟨ps, k, hv, ey, r⟩ n2 k2 => by
    subst ey
    obtain ⟨a, o, ex, g, e⟩ := run_din hv n2.dis n2.own k2 k1
    refine ⟨a, o, ex, g, ?_⟩
    rw [e]
    exact q _ W2 H2 O2 _ r (n1.trans n2) rfl
/-- d[k] = e -/
theorem sw_dput {td ty tv : TE} {Ed : En} (h : Ev F T tv G W fun z W1 => Ev F T td G W1 fun d W2 => Ev F T ty G W2 fun y W3 => ∃ a ps k Wa Wb, d = .adr a ∧ W3 = Wa ++ (a, .dp ps) :: Wb ∧ y = kD k ∧ ps.length < sizeLine ∧ Ed.nx G (Wa ++ (a, .dp (putG ps k z)) :: Wb)) : Sw F T (sDPut td ty tv) G W Ed := fun C H O σ w B b =>
  h C H O σ w _ fun z W1 H1 O1 zv h1 n1 k1 => h1 C H1 O1 σ (w.step n1) _ fun d W2 H2 O2 x h2 n2 k2 => h2 C H2 O2 σ ((w.step n1).step n2) _ fun y W3 H3 O3 yv ⟨a, ps, k, Wa, Wb, e1, e2, e3, hl, r⟩ n3 k3 => by
    subst e1 e2 e3
    have k2 : x = .ref a := k2
    have k3 : yv = kV k := k3
    subst k2 k3
    obtain ⟨_, kvs, ha, f1, f2, kl⟩ := n3.own.at_ a _ (List.mem_append_right _ List.mem_cons_self)
    have nn := (n1.trans n2).trans n3
    have hl2 : kvs.length = ps.length := by
      have := congrArg List.length f1
      rwa [List.length_map, List.length_map] at this
    refine ⟨a, _, rfl, DPut.k (ov_own ha) (by rw [hl2]; exact hl), ?_⟩
    obtain ⟨n4, e4⟩ := nn.write (o := .dK (putK kvs k zv)) (od2 := .dp (putG ps k z)) ⟨_, rfl, (putG_V kvs k zv) ▸ putG_keys (z := zv) (y := z) f1, putG_nodup f2, (putG_V kvs k zv) ▸ putG_den ((k1.mono n2.ext).mono n3.ext) f1 kl⟩
    rw [e4]
    exact b.nx _ _ _ _ _ r n4 (w.loc.mono nn.ext)
/-- {k: e for .. in .. if ..} -/
theorem ev_dc {wi : TI} {g : TG} (h : EvI F T wi G W fun ds W1 => ∃ I : Nat → List (Key × D) → Om → Prop, I 0 [] W1 ∧
      (∀ i d acc W', ds[i]? = some d → I i acc W' → Tw F T vs g d (wipeG G vs) fun G2 => EvT F T t G2 W' fun b W2 => if b = true then Ev F T te G2 W2 (fun y W3 => Ev F T tv G2 W3 fun z W4 => ∃ k, y = kD k ∧ acc.length < sizeLine ∧ I (i + 1) (putG acc k z) W4) else I (i + 1) acc W2) ∧
      (∀ acc W', I ds.length acc W' → ∀ p, p ∉ akeys W' → R (.adr p) ((p, .dp acc) :: W'))) : Ev F T (tDc wi g t te tv vs) G W R := fun C H O σ w Q q =>
  h C H O σ w _ fun J ds W1 H1 O1 ⟨I, i0, turn, fin⟩ n1 wk Dp hD => by
    obtain ⟨n0, e0, cp⟩ := n1.hide (o := .dK []) hD
    refine ⟨fun i m X => m = ds.length - i ∧ i ≤ ds.length ∧ ∃ acc av W' H' O', X = ov O' H' ∧ Nx F T (upd C Dp (.dK av)) W' H1 H' O' ∧ (av.map (·.1) = acc.map (·.1) ∧ (acc.map (·.1)).Nodup ∧ DenL F T H' (acc.map (·.2)) (av.map (·.2))) ∧ I i acc W', ⟨ds.length, by simp, Nat.zero_le _, [], [], W1, H1, _, e0, n0, ⟨rfl, List.nodup_nil, (show DenL F T H1 (([] : List (Key × D)).map (·.2)) (([] : List (Key × V)).map (·.2)) from rfl)⟩, i0⟩, ?_⟩
    rintro i m X ⟨rfl, hi, acc, av, W', H', O', rfl, n, ⟨ka1, ka2, ka⟩, ii⟩
    have k := wk i H' O' n.ext n.dis
    have lo1 := (w.loc.mono n1.ext).mono n.ext
    by_cases hlt : i < ds.length
    · obtain ⟨k1, k2⟩ := k.1 ds[i] (by simp [hlt])
      refine .inr ⟨k1, fun X2 => ∃ acc av W2 H2 O2, X2 = ov O2 H2 ∧ Nx F T (upd C Dp (.dK av)) W2 H1 H2 O2 ∧ (av.map (·.1) = acc.map (·.1) ∧ (acc.map (·.1)).Nodup ∧ DenL F T H2 (acc.map (·.2)) (av.map (·.2))) ∧ I (i + 1) acc W2, fun X2 y => ⟨ds.length - (i + 1), by omega, rfl, hlt, y⟩, fun x X2 y => ?_⟩
      obtain ⟨H2, s2, d2, rfl, kx⟩ := k2 x X2 y
      refine turn i ds[i] acc W' (by simp [hlt]) ii H2 _ _ x ((lo1.mono s2).wipe vs) d2.same kx _ fun G3 σ3 et l3 wz => ⟨wz.trans wipe_wipe, ?_⟩
      refine et (upd C Dp (.dK av)) H2 O' σ3 ⟨d2, n.oc, l3, n.own.mono s2⟩ _ fun b W3 H3 O3 r3 n3 => ?_
      have n03 : Nx F T (upd C Dp (.dK av)) W3 H1 H3 O3 := ⟨(n.ext.trans s2).trans n3.ext, n3.dis, n3.oc, n3.own⟩
      cases b with
      | false => exact ⟨acc, av, W3, H3, O3, rfl, n03, ⟨ka1, ka2, (ka.mono s2).mono n3.ext⟩, r3⟩
      | true =>
        have w3 : Wd F T (upd C Dp (.dK av)) G3 W3 H3 O3 σ3 := ⟨n3.dis, n3.oc, l3.mono n3.ext, n3.own⟩
        refine r3 (upd C Dp (.dK av)) H3 O3 σ3 w3 _ fun y W4 H4 O4 yv r4 n4 k4 => ?_
        refine r4 (upd C Dp (.dK av)) H4 O4 σ3 (w3.step n4) _ fun z W5 H5 O5 zv ⟨k', ey, hz, i5⟩ n5 k5 => ?_
        subst ey
        have k4 : yv = kV k' := k4
        subst k4
        have hO : ov O5 H5 Dp = some (.dK av) := ov_own (n5.oc Dp _ upd_same)
        have ka5 := (((ka.mono s2).mono n3.ext).mono n4.ext).mono n5.ext
        have hl2 : av.length = acc.length := by
          have := congrArg List.length ka1
          rwa [List.length_map, List.length_map] at this
        refine ⟨av, k', rfl, hO, by rw [hl2]; exact hz, ?_⟩
        obtain ⟨n6, e6⟩ := Nx.rehide (o' := .dK (putK av k' zv)) ((n03.trans n4).trans n5) cp
        exact ⟨putG acc k' z, putK av k' zv, W5, H5, _, e6, n6, ⟨(putG_V av k' zv) ▸ putG_keys (z := zv) (y := z) ka1, putG_nodup ka2, (putG_V av k' zv) ▸ putG_den k5 ka1 ka5⟩, i5⟩
    · have e : i = ds.length := by omega
      subst e
      refine .inl ⟨k.2 rfl, ?_⟩
      obtain ⟨n6, np⟩ := n.show (od := .dp acc) cp ⟨av, rfl, ka1, ka2, ka⟩
      exact q (.adr Dp) _ H' O' _ (fin acc W' ii Dp np) (Nx.trans ⟨n1.ext, n1.dis, n1.oc, n1.own⟩ n6) rfl
def pairsD : Nat → List D → List D
  | _, [] => []
  | n, d :: l => .tup [.int (n : Nat), d] :: pairsD (n + 1) l
theorem pairsD_len : ∀ {l : List D} {n : Nat}, (pairsD n l).length = l.length
  | [], _ => rfl
  | d :: l, n => by
    show (pairsD (n + 1) l).length + 1 = l.length + 1
    rw [pairsD_len]
theorem pairsD_get : ∀ {l : List D} {n i : Nat} {z : D}, (pairsD n l)[i]? = some z → ∃ d, l[i]? = some d ∧ z = .tup [.int ((n + i : Nat) : Int), d]
  | [], _, i, z, h => by simp [pairsD] at h
  | d :: l, n, 0, z, h => ⟨d, rfl, (Option.some.inj h).symm⟩
  | d :: l, n, i + 1, z, h => by
    have h : (pairsD (n + 1) l)[i]? = some z := h
    obtain ⟨e, h1, h2⟩ := pairsD_get h
    refine ⟨e, h1, ?_⟩
    rw [h2]
    have : n + 1 + i = n + (i + 1) := by omega
    rw [this]
end
end N
set_option Elab.async false
set_option linter.all false
set_option maxRecDepth 100000
namespace N
open PySem PySem.Spec PyProof.Rows L2
section
variable {X : Cx} {CX : CXT} {k : Nat} {C f : Addr} {fd : FuncData} {ps ks : List Str} {sp : Sp} {E : XK} {pins : List (Addr × Obj)} {σ : L2.St} {H : Hp} {s : Shared}
/-- a def is called from anywhere within the body -/
theorem run_at {A : Around} {vs : List V} {us : List Value} {Q : VK} (F : FnOk X.prog X.w X.K X.mg X.base CX k f fd ps sp) (hr : Room k A) (fr : A.frames = X.A.frames) (hb : Binds X.K fd ps []) (hx : Passes CX X E) (I : Inv X pins σ H s) (r : Vals vs us) (h : sp vs H Q E) :
    wpAny (model X.prog X.w) A (call (.ref f) us) (EP X pins σ Q) X.xe s := by
  have e := I.env0
  have e0 : Env0 X.prog X.w X.K X.mg X.base A X.stack s H := ⟨by rw [fr]; exact e.frames, e.mod, e.bs, e.bsz, e.funs, e.frf, e.hok, e.bare⟩
  have hl : us.length = ps.length := by rw [← r.length]; exact F.len _ _ _ _ h
  have hb' := hb s us I.kIn (by simpa using hl)
  simp only [List.append_nil] at hb'
  refine wpAny_call (codeAny_mono (F.run A X.stack s H ⟨us, []⟩ us vs Q E hr e0 hb' r h) fun r s' hq => ?_)
  cases r with
  | error e => exact hx pins σ H s e s' I hq
  | ok fl =>
    cases fl with
    | ret u => exact I.after hq
    | next => exact False.elim hq
    | brk => exact False.elim hq
    | cont => exact False.elim hq
/-- an instance's method of the class, by a name between two underscores -/
structure Own2 (K : PySem.W.Frag) (C : Addr) (m : Str) (f : Addr) : Prop where
  at_ : PySem.W.findIn K (.ref C) m = some (some (.ref f))
  fn : PySem.W.isFn K (.ref f) = true
def rOwn1 (C : Addr) (sp : Sp) (E : XK) : V → Hp → VK → Prop := fun x H Q => ∃ a dx fs, x = .ref a ∧ H a = some (.ins C dx fs) ∧ sp [x] H Q E
theorem inst_of {a dx : Addr} {fs : List (Str × V)} (I : Inv X pins σ H s) (e : H a = some (.ins C dx fs)) : ∃ od, PySem.W.InstAt s.heap a (PySem.W.instObj C dx) C (some od) := by
  obtain ⟨mA, J, _⟩ := ins_get I.hok e
  obtain ⟨od, J, _⟩ := J.look
  exact ⟨od, J⟩
/-- str(x) by the own method -/
theorem call_own_str (F : FnOk X.prog X.w X.K X.mg X.base CX k f fd ps sp) (hr : Room (k + 2) X.A) (o : Own2 X.K C "__str__" f) (hb : Binds X.K fd ps []) (hx : Passes CX X E) :
    CallR X (.type "str") (fun xs H Q => ∃ a dx fs, xs = [.ref a] ∧ H a = some (.ins C dx fs) ∧ sp [.ref a] H (fun v H' => (∃ z, v = .str z) ∧ Q v H') E) := by
  intro pins s σ H xs us Q I r hq
  obtain ⟨a, dx, fs, rfl, ha, q⟩ := hq
  obtain ⟨u, rfl, rx⟩ := vals1 r
  cases rx
  obtain ⟨od, J⟩ := inst_of I ha
  have h1 := hr.in1
  have h2 := h1.in1
  refine PySem.W.kso_call h2.units0 I.kIn J o.at_ o.fn (thn (run_at F h2 rfl hb hx I (vs := [V.ref a]) (.cons rfl .nil) q) fun v s' h => ?_)
  obtain ⟨x, H', I', rx, ⟨z, ez⟩, q'⟩ := h
  subst ez
  obtain ⟨t, rfl⟩ := rx
  exact ⟨.str z, H', I', ⟨t, rfl⟩, q'⟩
/-- o.f as a target -/
theorem pg_fld {o : Expr} {g : Str} {pos : Pos} {ta : TE} (ha : PE X o ta) : PG X (.Attribute o g pos) (gFld X.K ta g) := by
  refine ⟨fun pins s σ H v u Q I r h => ?_⟩
  rw [assign_Attribute]
  refine wpAny_bind (wpAny_holding (thn (ha.run pins s σ H _ I h) fun ov s1 ⟨x, H1, I1, r1, a, C, dx, fs, ex, ea, c, n, l, q⟩ => ?_))
  subst ex
  obtain rfl : ov = Value.ref a := r1
  refine wpAny_bind (wpAny_standAt (wpAny_bind (wpAny_holding (setattr_ok I1 ea c n l r fun s3 I3 => ?_))))
  exact wpAny_release ⟨σ, _, I3, q⟩
/-- f(k = v, ..), by keywords alone -/
theorem pe_callN0 {x : Str} {p pos : Pos} {kws : List Keyword} {tk : TA} {g : List Value → List Value → List Value} {gV : List V → List V → List V} (F : FnOk X.prog X.w X.K X.mg X.base CX k f fd ps sp) (hr : Room k X.A) (hg : Gl X x) (hm : X.mg x = some (.ref f)) (hk : PySem.W.keepIn X.K (.ref f) = true)
    (hb : KBn X.K fd ps 0 ks g gV) (hx : Passes CX X E) (hkw : PK X kws tk)
    (hall : (backToKw pos (keywordEach kws X.env)).all (·.1.isSome) = true := by rfl) (hks : (backToKw pos (keywordEach kws X.env)).filterMap (·.1) = ks := by rfl)
    (hdb : (x == ("__debug__" : Str)) = false := by decide)
    (hpl : ((backTo pos (starEach [] X.env)).any (·.1) || (backToKw pos (keywordEach kws X.env)).any (·.1.isNone)) = false := by rfl) :
    PE X (.Call (.Name x p) [] kws pos) (fun σ H Q => tk σ H fun zs H2 => zs.length = ks.length ∧ sp (gV [] zs) H2 Q E) := by
  refine ⟨fun pins s σ H Q I h => ?_⟩
  refine wpAny_Call_Name_kw (ld_glob I hg hm ?_ hdb)
  refine PySem.W.callWith_KW0 (h₀ := X.base) I.ok.mod.kin hk hall ?_ hpl
  refine thn (hkw.run pos pins s σ H _ I h) fun ws s2 ⟨zs, H2, I2, rz, l2, q2⟩ => ⟨I2.kIn, ?_⟩
  rw [hks]
  exact run_fnN (us := []) (vs := []) F hr hb hx I2 .nil rz rfl l2 q2
end
end N
set_option Elab.async false
set_option linter.all false
set_option maxRecDepth 100000
set_option maxHeartbeats 400000
namespace N
open PySem PySem.Spec PyProof.Rows L2
mutual
def D.pd : D → Option PyData
  | .vl .non => some .none
  | .vl (.bl b) => some (.bool b)
  | .vl (.int i) => some (.int i)
  | .vl (.str s) => some (.str s)
  | .vl _ => none
  | .tup l => (pdL l).map .tuple
  | .lst l => (pdL l).map .list
  | .dct _ _ => none
  | .obj _ _ _ => none
  | .fm _ => none
  | .scr _ => none
  | .kdd _ _ _ => none
  | .dcz _ _ => none
  | .tupz _ => none
def pdL : List D → Option (List PyData)
  | [] => some []
  | d :: l => match D.pd d, pdL l with
    | some p, some r => some (p :: r)
    | _, _ => none
end
theorem pdL_cons {d : D} {l : List D} {p : PyData} {r : List PyData} (h1 : d.pd = some p) (h2 : pdL l = some r) : pdL (d :: l) = some (p :: r) := by
  simp only [pdL, h1, h2]
theorem pdL_map {α : Type} (f : α → D) (g : α → PyData) (h : ∀ x, (f x).pd = some (g x)) : ∀ l : List α, pdL (l.map f) = some (l.map g)
  | [] => rfl
  | x :: l => pdL_cons (h x) (pdL_map f g h l)
theorem pd_tup {l : List D} {r : List PyData} (h : pdL l = some r) : (D.tup l).pd = some (.tuple r) := by simp only [D.pd, h, Option.map_some]
theorem pd_lst {l : List D} {r : List PyData} (h : pdL l = some r) : (D.lst l).pd = some (.list r) := by simp only [D.pd, h, Option.map_some]
section
variable {F : FmKit} {T : Kx} {C H H' O O' : Hp} {G : Gm} {W W' : Om} {R R' : D → Om → Prop}
mutual
theorem Den.dp : ∀ (d : D) (v : V) (p : PyData), Den F T H d v → d.pd = some p → Dp T.K H v p
  | .vl .non, _, p, h, e => by
    have h : _ = _ := h
    simp only [D.pd, Option.some.injEq] at e
    subst h e
    exact .non
  | .vl (.bl b), _, p, h, e => by
    have h : _ = _ := h
    simp only [D.pd, Option.some.injEq] at e
    subst h e
    exact .bl b
  | .vl (.int i), _, p, h, e => by
    have h : _ = _ := h
    simp only [D.pd, Option.some.injEq] at e
    subst h e
    exact .int i
  | .vl (.str s), _, p, h, e => by
    have h : _ = _ := h
    simp only [D.pd, Option.some.injEq] at e
    subst h e
    exact .str s
  | .vl (.byt _), _, p, _, e => by simp only [D.pd] at e; cases e
  | .vl (.flt _), _, p, _, e => by simp only [D.pd] at e; cases e
  | .vl (.ref _), _, p, _, e => by simp only [D.pd] at e; cases e
  | .vl (.ty _), _, p, _, e => by simp only [D.pd] at e; cases e
  | .tup l, _, p, ⟨a, xs, h1, h2, h3⟩, e => by
    subst h1
    simp only [D.pd] at e
    cases q : pdL l with
    | none =>
      rw [q] at e
      cases e
    | some r =>
      rw [q] at e
      cases e
      exact .tup h2 (DenL.dp l xs r h3 q)
  | .lst l, _, p, ⟨a, xs, h1, h2, h3⟩, e => by
    subst h1
    simp only [D.pd] at e
    cases q : pdL l with
    | none =>
      rw [q] at e
      cases e
    | some r =>
      rw [q] at e
      cases e
      exact .lst (SqL.of h2) (DenL.dp l xs r h3 q)
  | .dct _ _, _, p, _, e => by simp only [D.pd] at e; cases e
  | .obj _ _ _, _, p, _, e => by simp only [D.pd] at e; cases e
  | .fm _, _, p, _, e => by simp only [D.pd] at e; cases e
  | .scr _, _, p, _, e => by simp only [D.pd] at e; cases e
  | .kdd _ _ _, _, p, _, e => by simp only [D.pd] at e; cases e
  | .dcz _ _, _, p, _, e => by simp only [D.pd] at e; cases e
  | .tupz _, _, p, _, e => by simp only [D.pd] at e; cases e
theorem DenL.dp : ∀ (l : List D) (vs : List V) (ps : List PyData), DenL F T H l vs → pdL l = some ps → DpAll T.K H vs ps
  | [], _, ps, h, e => by
    have h : _ = _ := h
    simp only [pdL, Option.some.injEq] at e
    subst h e
    exact .nil
  | d :: l, _, ps, ⟨v, r, h1, h2, h3⟩, e => by
    subst h1
    simp only [pdL] at e
    cases q : D.pd d with
    | none =>
      rw [q] at e
      cases e
    | some p =>
      cases q2 : pdL l with
      | none =>
        rw [q, q2] at e
        cases e
      | some rs =>
        rw [q, q2] at e
        cases e
        exact .cons (Den.dp d v p h2 q) (DenL.dp l r rs h3 q2)
end
/-- d is the datum p: frozen, or an owned list of such -/
def Vp (W : Om) (d : D) (p : PyData) : Prop := d.pd = some p ∨ ∃ l, Vl W d l ∧ (D.lst l).pd = some p
theorem Vp.at {d : D} {p : PyData} {x : V} (h : Vp W d p) (di : Dis O H) (ow : Ow F T H C O W) (k : Den F T H d x) : Dp T.K (ov O H) x p := by
  rcases h with h | ⟨l, hv, h⟩
  · exact Den.dp d x p (k.mono di.same) h
  · obtain ⟨a, xs, e, hs, kl⟩ := hv.sq ow di k
    simp only [D.pd] at h
    cases q : pdL l with
    | none =>
      rw [q] at h
      cases h
    | some r =>
      rw [q] at h
      cases h
      subst e
      exact .lst hs (DenL.dp l xs r (kl.mono di.same) q)
theorem bo_eqD {d1 d2 : D} {p q : PyData} (h1 : Vp W d1 p) (h2 : Vp W d2 q) (s1 : SeqAt.shaped p = true) (s2 : SeqAt.shaped q = true) (r : R (.bl (PyData.eqv p q)) W) : Bo F T (rEqD T.K) d1 d2 W R := fun C H O di oc ow x y hx hy Q k =>
  ⟨p, q, h1.at di ow hx, h2.at di ow hy, s1, s2, k _ W H O _ r (.refl di oc ow) rfl⟩
theorem bo_neD {d1 d2 : D} {p q : PyData} (h1 : Vp W d1 p) (h2 : Vp W d2 q) (s1 : SeqAt.shaped p = true) (s2 : SeqAt.shaped q = true) (r : R (.bl (!PyData.eqv p q)) W) : Bo F T (rNeD T.K) d1 d2 W R := fun C H O di oc ow x y hx hy Q k =>
  ⟨p, q, h1.at di ow hx, h2.at di ow hy, s1, s2, k _ W H O _ r (.refl di oc ow) rfl⟩
end
/-- a value whose repr the heap tells -/
def Told (P : Program) (w : World) (hp : Heap) (u : Value) (p : PyData) : Prop := ∃ ads bs, Reads hp u p ads ∧ ReadAtMost hp p.depth bs ∧ ReprK P w bs hp p.depth u p.shown
def ToldL (P : Program) (w : World) (hp : Heap) (us : List Value) (ps : List PyData) : Prop := ∃ ads bs, ReadsAll hp us ps ads ∧ ReadAtMost hp (PyData.depthAll ps) bs ∧ ReprAllK P w bs hp (PyData.depthAll ps) us (PyData.shownAll ps)
theorem ToldL.c {P : Program} {w : World} {hp : Heap} {u : Value} {us : List Value} {p : PyData} {ps : List PyData} (h1 : Told P w hp u p) (h2 : ToldL P w hp us ps) : ToldL P w hp (u :: us) (p :: ps) := by
  obtain ⟨a1, b1, r1, m1, k1⟩ := h1
  obtain ⟨a2, b2, r2, m2, k2⟩ := h2
  have l1 : p.depth ≤ PyData.depthAll (p :: ps) := by simp only [PyData.depthAll]; omega
  have l2 : PyData.depthAll ps ≤ PyData.depthAll (p :: ps) := by simp only [PyData.depthAll]; omega
  refine ⟨a1 ++ a2, b1 ++ b2, .cons r1 r2, (m1.mono l1).append (m2.mono l2), ?_⟩
  simp only [PyData.shownAll]
  exact .cons ((k1.more fun _ z => List.mem_append_left _ z).level_le l1) (k2.more_le (fun _ z => List.mem_append_right _ z) l2)
section
variable {X : Cx} {pins : List (Addr × Obj)} {σ : L2.St} {H : Hp} {s : Shared}
/-- an empty dict in the heap -/
theorem dk_nil {p : Addr} (I : Inv X pins σ H s) (h : H p = some (.dK [])) : ∃ o n, s.heap.get? p = some o ∧ o.cls = .type "dict" ∧ o.data = .dict #[] n ∧ (p == sysModules) = false := by
  obtain ⟨_, hn, vs, rel, o, es, n, ho, hx, hd, _, hp, _⟩ := dk_of I.hok h
  cases rel
  have e : es = #[] := by
    obtain ⟨l⟩ := es
    have hp : Pairs _ l [] := hp
    cases hp
    rfl
  exact ⟨o, n, ho, hx.1, e ▸ hd, hn⟩
end
structure ShwQ (p : PyData) : Prop where
  sh : p.showable = true
  dp : p.depth ≤ 30
  sz : p.shown.length ≤ sizeLine
def FnG (P : Program) (w : World) (K : PySem.W.Frag) (mg : Str → Option Value) (base : Heap) (k : Nat) (f : Addr) (sp : Sp) : Prop :=
  ∀ (A : Around) (outer : List Env) (s : Shared) (H : Hp) (us : List Value) (vs : List V) (Q : VK), A.guards = some [] → Room k A → Env0 P w K mg base A outer s H → Vals vs us → sp vs H Q E0 → codeAny (model P w) A (.call (.ref f) ⟨us, []⟩) (CR CX0 outer P w H s Q E0) s
section
variable {P : Program} {w : World} {K : PySem.W.Frag} {mg : Str → Option Value} {base : Heap}
theorem Fun.okG {x qual : Str} {st : Stmt} {f : Addr} {fd : FuncData} {N ps : List Str} {k : Nat} {sp : Sp} (Fn : Fun K x qual st f fd) (S : FnScope N ps (defScope st)) (len : ∀ vs H Q E, sp vs H Q E → vs.length = ps.length)
    (hb : ∀ (kV doc pm : Value) (an : Option Addr) (cdv ct : Value) (us : List Value), us.length = ps.length → bindArgs (PySem.W.fnOf x qual (defArgs st) (defBody st) (defScope st) .none kV doc pm an cdv ct) ⟨us, []⟩ = pure (ps.zip us))
    (hbody : ∀ (cdv : Value) (A : Around) (outer : List Env) (s : Shared) (H : Hp) (vs : List V) (Q : VK), (A.deeper (envOfC qual (defScope st) s.heap.objs.size f cdv)).guards = some [] → Room k (A.deeper (envOfC qual (defScope st) s.heap.objs.size f cdv)) → sp vs H Q E0 →
      ∃ t, PSs (cxOf CX0 P w K mg base N qual (defScope st) f cdv A outer s H E0).nox (defBody st) t ∧ t { nx := fun _ H' => Q .non H', rt := Q } (start N vs) H) : FnG P w K mg base (k + 1) f sp := by
  obtain ⟨oc, od, kV, doc, pm, an, cdv, ct, osl, rfl, lk, hcd⟩ := Fn.ex
  intro A outer s H us vs Q hg hr e0 r hsp
  have hl := len _ _ _ _ hsp
  refine StX.run_bnd lk hcd S hr e0 (G := fun xs H2 => xs = vs ∧ H2 = H) (fun A' Ex Q' h => ?_) fun s2 H2 xs ⟨e1, e2⟩ hr' => ?_
  · rw [hb kV doc pm an cdv ct us (by rw [← r.length]; exact hl)]
    exact wpAny_pure (h s H vs us e0 Un.refl rfl (fun _ _ z => z) r hl ⟨rfl, rfl⟩)
  · subst e1 e2
    obtain ⟨t, ht, q⟩ := hbody cdv A outer s2 _ _ Q hg hr' hsp
    exact ⟨t, ht.nox, q⟩
theorem run_fnG {X : Cx} {k : Nat} {f : Addr} {sp : Sp} {pins : List (Addr × Obj)} {σ : L2.St} {H : Hp} {s : Shared} {us : List Value} {vs : List V} {Q : VK} (Fn : FnG X.prog X.w X.K X.mg X.base k f sp) (hg : X.A.guards = some []) (hr : Room k X.A) (I : Inv X pins σ H s) (r : Vals vs us) (h : sp vs H Q E0) :
    wpAny (model X.prog X.w) X.A (call (.ref f) us) (EP X pins σ Q) X.xe s := by
  refine wpAny_call (codeAny_mono (Fn X.A X.stack s H us vs Q hg hr I.env0 r h) fun r s' hq => ?_)
  cases r with
  | error e => exact False.elim hq
  | ok fl =>
    cases fl with
    | ret u => exact I.after hq
    | next => exact False.elim hq
    | brk => exact False.elim hq
    | cont => exact False.elim hq
/-- f(e, ..), f such a def -/
theorem pe_callG {X : Cx} {k : Nat} {f : Addr} {sp : Sp} {x : Str} {p pos : Pos} {e : Expr} {es : List Expr} {t : TA} (Fn : FnG X.prog X.w X.K X.mg X.base k f sp) (hgd : X.A.guards = some []) (hr : Room k X.A) (hg : Gl X x) (hm : X.mg x = some (.ref f)) (hk : PySem.W.keepIn X.K (.ref f) = true)
    (ha : PA X (e :: es) t) (hdb : (x == ("__debug__" : Str)) = false := by decide)
    (he : starEach (e :: es) X.env = (false, eval e X.env) :: starEach es X.env := by rfl) (hpl : (backTo pos (starEach es X.env)).any (·.1) = false := by rfl) : PE X (.Call (.Name x p) (e :: es) [] pos) (tCall sp [] E0 t) := by
  refine ⟨fun pins s σ H Q I h => ?_⟩
  refine wpAny_Call_Name_kw (ld_glob I hg hm ?_ hdb)
  refine PySem.W.callWith_K (h₀ := X.base) I.ok.mod.kin hk (thn (ha.run pos pins s σ H _ I h) fun us s1 ⟨vs, H1, I1, r, q⟩ => ⟨I1.kIn, ?_⟩) he hpl
  have q : sp (vs ++ []) H1 Q E0 := q
  rw [List.append_nil] at q
  exact run_fnG Fn hgd hr I1 r q
end
theorem lawG {P : Program} {w : World} {K : PySem.W.Frag} {mg mb : Str → Option Value} {k : Nat} {fa a : Addr} {sp : Sp} {s1 : Shared} {vs : List Value} {ns : List Int}
    (KX : K.In s1.heap) (hns : s1.heap.Ns mainGlobals mg) (hb : s1.heap.Ns builtinsNs mb) (hbb : ∀ x : Str, x ≠ "__name__" → mb x = bootBuiltins x) (hlim : s1.heap.NoLimit) (hg : s1.gens = #[])
    (ha : s1.heap.get? a = some { cls := .type "list", data := .seq vs.toArray }) (hi : IntsAre vs ns) (hl : ns.length ≤ sizeLine) (hr : Room k callerA)
    (Fn : ∀ base : Heap, K.In base → base.Ns mainGlobals mg → FnG P w K mg base k fa sp)
    (hsp : ∀ H : Hp, Only H → SqL K H a (ns.map V.int) → sp [.ref a] H (fun v _ => v = .bl true) E0) :
    codeAny (model P w) callerA (.call (.ref fa) ⟨[.ref a], []⟩) (fun r s' => r = .ok (.ret (.bool true)) ∧ OldK s1.heap s'.heap ∧ s'.os = s1.os ∧ AllBare s'.gens) s1 := by
  have rv := vals_ints hi
  have lenV := hi.length
  have core : ∀ H : Hp, Only H → SqL K H a (ns.map V.int) → HOk P w H s1.heap → (∀ b, H b ≠ none → b = a) → (H a ≠ none → K.lookup a = none) →
      codeAny (model P w) callerA (.call (.ref fa) ⟨[.ref a], []⟩) (fun r s' => r = .ok (.ret (.bool true)) ∧ OldK s1.heap s'.heap ∧ s'.os = s1.os ∧ AllBare s'.gens) s1 := by
    intro H hO hS hok hA hK
    have one : ∀ {b : Addr}, H b ≠ none → b = a := fun z => hA _ z
    have free : ∀ {b : Addr}, (b = a → False) → H b = none := fun {b} z => by
      cases q : H b with
      | none => rfl
      | some u => exact (z (one (by rw [q]; simp))).elim
    have notA : ∀ {b : Addr} {o : Obj} {es : Array DictEntry} {ep : Nat}, s1.heap.get? b = some o → o.data = .dict es ep → H b = none := fun {b o es ep} e d => free fun z => by
      subst z
      rw [ha] at e
      cases e
      cases (show Data.seq vs.toArray _ = Data.dict es ep from d)
    have nsK : ∀ {b : Addr} {m : Str → Option Value}, s1.heap.Ns b m → (hidT s1.heap H).Ns b m := fun ⟨o, es, ep, e, d, r⟩ => ⟨o, es, ep, hidT_get e (notA e d), d, r⟩
    have hKb : K.In (hidT s1.heap H) := fun b o e => hidT_get (KX b o e) (by
      cases q : H b with
      | none => rfl
      | some u =>
        have eb : b = a := one (by rw [q]; simp)
        subst eb
        rw [hK (by rw [q]; simp)] at e
        cases e)
    have hM : Mod K mg (hidT s1.heap H) := ⟨hKb, nsK hns, ⟨mb, nsK hb, hbb⟩, let ⟨mc, h1, h2⟩ := hlim; ⟨mc, nsK h1, h2⟩⟩
    have e0 : Env0 P w K mg (hidT s1.heap H) callerA [] s1 H := ⟨rfl, hM, fun b o e => of_hidT e, Nat.le_of_eq (hidT_size _ _), trivial, fun b hb => absurd (show b ∈ ([] : List Addr) from hb) (by simp), hok, .of_eq hg⟩
    refine codeAny_mono (Fn _ hKb (nsK hns) callerA [] s1 H [.ref a] [.ref a] _ rfl hr e0 (.cons rfl .nil) (hsp H hO hS)) fun r s' h => ?_
    cases r with
    | error e => exact False.elim h
    | ok fl =>
      cases fl with
      | next => exact False.elim h
      | brk => exact False.elim h
      | cont => exact False.elim h
      | ret u =>
        obtain ⟨v, H', os, bare, un, hok', r', q⟩ := h
        have ev : v = .bl true := q
        subst ev
        obtain rfl : u = Value.bool true := r'
        refine ⟨rfl, OldK.of_keep fun b o e => ?_, os, bare⟩
        cases q : H b with
        | none => exact un.keep b o e q (by intro z; exact absurd (show b ∈ ([] : List Addr) from z) (by simp)) (by simp)
        | some u =>
          rcases hO b with z | ⟨ob, xs, z⟩
          · rw [q] at z
            cases z
          · obtain ⟨e1, _⟩ := hok b _ z
            obtain ⟨e2, _⟩ := hok' b _ (un.frzs b ob _ z)
            rw [e] at e1
            cases e1
            exact e2
  cases hk : K.lookup a with
  | some o =>
    have e := KX a o hk
    rw [ha] at e
    cases e
    exact core (fun _ => none) (fun _ => .inl rfl) (.inr ⟨_, vs.toArray, _, hk, rfl, rfl, rfl, by rw [List.size_toArray, lenV]; exact hl, by simpa using rv⟩) (fun b u z => nomatch (show (none : Option HO) = some u from z)) (fun b z => absurd rfl z) fun z => absurd rfl z
  | none =>
    refine core (fun b => if b = a then some (.frz { cls := .type "list", data := .seq vs.toArray } (.lst (ns.map V.int))) else none) (fun b => ?_) (.inl (.inr ⟨{ cls := .type "list", data := .seq vs.toArray }, if_pos rfl⟩)) (fun b u z => ?_) (fun b z => ?_) fun _ => hk
    · by_cases hb : b = a
      · exact .inr ⟨_, _, if_pos hb⟩
      · exact .inl (if_neg hb)
    · by_cases hb : b = a
      · have e := (if_pos hb).symm.trans z
        cases e
        subst hb
        exact ⟨ha, by rw [List.length_map]; exact hl, vs, _, rv, ha⟩
      · cases (if_neg hb).symm.trans z
    · by_cases hb : b = a
      · exact hb
      · exact absurd (if_neg hb) z
end N
set_option Elab.async false
set_option linter.all false
set_option maxRecDepth 100000
namespace N
open PySem PySem.Spec PyProof.Rows L2
def startD (N : List Str) (ds : List D) : Gm := ds.map some ++ List.replicate (N.length - ds.length) none
section
variable {F : FmKit} {T : Kx} {H : Hp}
theorem DenL.lo {N : List Str} {ds : List D} {vs : List V} (k : DenL F T H ds vs) : Lo F T H (startD N ds) (L2.start N vs) := by
  refine ⟨?_, fun i d h => ?_⟩
  · unfold L2.start startD
    simp [k.len]
  · unfold startD at h
    unfold L2.start
    by_cases hi : i < ds.length
    · rw [List.getElem?_append_left (by simpa using hi), List.getElem?_map] at h
      cases e : ds[i]? with
      | none =>
        rw [e] at h
        cases h
      | some d' =>
        rw [e] at h
        cases h
        obtain ⟨v, hv, kv⟩ := k.get e
        refine ⟨v, ?_, kv⟩
        rw [List.getElem?_append_left (by rw [List.length_map, k.len]; exact hi), List.getElem?_map, hv]
        rfl
    · rw [List.getElem?_append_right (by simpa using hi), List.getElem?_replicate] at h
      split at h <;> cases h
end
section
variable {P : Program} {w : World} {K : PySem.W.Frag} {mg : Str → Option Value} {base : Heap} {F : FmKit} {cl : Nat → Addr} {S : FS}
theorem spN_len {n : Nat} (len : ∀ ds W post, S ds W post → ds.length = n) : ∀ vs H Q E, spN F ⟨K, cl⟩ S vs H Q E → vs.length = n := fun vs H Q E ⟨ds, W, C, H1, O, post, _, _, _, _, k, h, _⟩ => by
  rw [k.len]
  exact len ds W post h
/-- the end of a body meets the wish of the call -/
theorem body_run {N : List Str} {t : TS} {vs : List V} {H : Hp} {Q : VK} {E : XK} (h : spN F ⟨K, cl⟩ S vs H Q E) (b : ∀ ds W post, S ds W post → Sw F ⟨K, cl⟩ t (startD N ds) W (E_ post)) : t { nx := fun _ H' => Q .non H', rt := Q } (L2.start N vs) H := by
  obtain ⟨ds, W, C, H1, O, post, e, di, oc, ow, k, hs, q⟩ := h
  subst e
  exact b ds W post hs C H1 O _ ⟨di, oc, k.lo, ow⟩ _ ⟨fun G W' H' O' σ' r n l => q .non W' H' O' .non r n rfl, fun d W' H' O' v r n kd => q d W' H' O' v r n kd, fun _ _ _ _ _ z => z.elim, fun _ _ _ _ _ z => z.elim⟩
theorem okD {x qual : Str} {st : Stmt} {f : Addr} {fd : FuncData} {N ps : List Str} {k : Nat} (Fn : Fun K x qual st f fd) (Sc : FnScope N ps (defScope st)) (len : ∀ ds W post, S ds W post → ds.length = ps.length)
    (body : ∀ (cdv : Value) (A : Around) (outer : List Env) (s : Shared) (H : Hp) (E : XK), Room k (A.deeper (envOfC qual (defScope st) s.heap.objs.size f cdv)) →
      ∃ t, PSs (cxOf CX0 P w K mg base N qual (defScope st) f cdv A outer s H E).nox (defBody st) t ∧ ∀ ds W post, S ds W post → Sw F ⟨K, cl⟩ t (startD N ds) W (E_ post)) : FnOk P w K mg base CX0 (k + 1) f fd ps (spN F ⟨K, cl⟩ S) :=
  Fn.ok Sc (spN_len len) fun cdv A outer s H vs Q E hr h => let ⟨t, ht, b⟩ := body cdv A outer s H E hr; ⟨t, ht, body_run h b⟩
theorem okG {x qual : Str} {st : Stmt} {f : Addr} {fd : FuncData} {N ps : List Str} {k : Nat} (Fn : Fun K x qual st f fd) (Sc : FnScope N ps (defScope st)) (len : ∀ ds W post, S ds W post → ds.length = ps.length)
    (hb : ∀ (kV doc pm : Value) (an : Option Addr) (cdv ct : Value) (us : List Value), us.length = ps.length → bindArgs (PySem.W.fnOf x qual (defArgs st) (defBody st) (defScope st) .none kV doc pm an cdv ct) ⟨us, []⟩ = pure (ps.zip us))
    (body : ∀ (cdv : Value) (A : Around) (outer : List Env) (s : Shared) (H : Hp), (A.deeper (envOfC qual (defScope st) s.heap.objs.size f cdv)).guards = some [] → Room k (A.deeper (envOfC qual (defScope st) s.heap.objs.size f cdv)) →
      ∃ t, PSs (cxOf CX0 P w K mg base N qual (defScope st) f cdv A outer s H E0).nox (defBody st) t ∧ ∀ ds W post, S ds W post → Sw F ⟨K, cl⟩ t (startD N ds) W (E_ post)) : FnG P w K mg base (k + 1) f (spN F ⟨K, cl⟩ S) :=
  Fun.okG Fn Sc (spN_len len) hb fun cdv A outer s H vs Q hg hr h => let ⟨t, ht, b⟩ := body cdv A outer s H hg hr; ⟨t, ht, body_run h b⟩
/-- a def with a star behind n names -/
def starS (n : Nat) (S : FS) : FS := fun ds W post => n ≤ ds.length ∧ ds.length ≤ 1000 ∧ S (ds.take n ++ [.tup (ds.drop n)]) W post
theorem okS {x qual : Str} {st : Stmt} {f : Addr} {fd : FuncData} {N ps : List Str} {k : Nat} {pv : Str} (Fn : Fun K x qual st f fd) (Sc : FnScope N (ps ++ [pv]) (defScope st))
    (hb : ∀ (kV doc pm : Value) (an : Option Addr) (cdv ct : Value) (us rest : List Value), us.length = ps.length → bindArgs (PySem.W.fnOf x qual (defArgs st) (defBody st) (defScope st) .none kV doc pm an cdv ct) ⟨us ++ rest, []⟩ = (newTuple rest >>= fun t => pure (ps.zip us ++ [(pv, t)])))
    (body : ∀ (cdv : Value) (A : Around) (outer : List Env) (s : Shared) (H : Hp) (E : XK), Room k (A.deeper (envOfC qual (defScope st) s.heap.objs.size f cdv)) →
      ∃ t, PSs (cxOf CX0 P w K mg base N qual (defScope st) f cdv A outer s H E) (defBody st) t ∧ ∀ ds W post, S ds W post → Sw F ⟨K, cl⟩ t (startD N ds) W (E_ post)) : FnR P w K mg base CX0 (k + 1) f (spN F ⟨K, cl⟩ (starS ps.length S)) := by
  obtain ⟨oc, od, kV, doc, pm, an, cdv, ct, osl, rfl, lk, hcd⟩ := Fn.ex
  have h := StX.fn_star (CX := CX0) (P := P) (w := w) (mg := mg) (base := base) (k := k) (N := N) (ps := ps) (sp := spN F ⟨K, cl⟩ S) lk hcd Sc StX.cxUp_none (hb kV doc pm an cdv ct) (fun A outer s H vs Q E hr h => let ⟨t, ht, b⟩ := body cdv A outer s H E hr; ⟨t, ht, body_run h b⟩)
  refine fun A outer s H us vs Q E hr e0 r hsp => h A outer s H us vs Q E hr e0 r ?_
  obtain ⟨ds, W, C, H1, O, post, e, di, oc, ow, kl, ⟨h1, h2, h3⟩, q⟩ := hsp
  have hl := kl.len
  refine ⟨vs.take ps.length, vs.drop ps.length, (List.take_append_drop _ _).symm, by rw [List.length_take, hl]; omega, ?_, fun p hp => ?_⟩
  · have := sizeLine_eq
    rw [List.length_drop, hl]
    omega
  · subst e
    obtain ⟨n2, e2, s2⟩ := (Nx.refl (F := F) (T := ⟨K, cl⟩) di oc ow).newF (o := .tup (vs.drop ps.length)) hp
    rw [e2]
    exact ⟨_, W, C, _, O, post, rfl, n2.dis, n2.oc, n2.own, ((kl.take ps.length).mono s2).app (.one (d := .tup (ds.drop ps.length)) ⟨p, _, rfl, SqT.of upd_same, (kl.drop ps.length).mono s2⟩), h3, fun d W' H' O' v r n k => q d W' H' O' v r (n2.trans n) k⟩
end
end N
set_option Elab.async false
set_option linter.all false
set_option maxRecDepth 100000
namespace N
open PySem PySem.Spec PyProof.Rows L2
open C8 (Cal Met Mak pe_c pe_mt pe_mt0 pe_mk)
/-- the built-in names that a text uses are not hidden -/
structure Blt (mg : Str → Option Value) : Prop where
  len : mg "len" = none
  int : mg "int" = none
  str : mg "str" = none
  range : mg "range" = none
  list : mg "list" = none
  tuple : mg "tuple" = none
  dict : mg "dict" = none
  set : mg "set" = none
  sorted : mg "sorted" = none
  isinstance : mg "isinstance" = none
  repr : mg "repr" = none
  max : mg "max" = none
  min : mg "min" = none
  sum : mg "sum" = none
  all : mg "all" = none
  any : mg "any" = none
  zip : mg "zip" = none
  enumerate : mg "enumerate" = none
  bool : mg "bool" = none
  reversed : mg "reversed" = none
  type : mg "type" = none
theorem bt_int : bootBuiltins "int" = some (.type "int") := by decide +kernel
theorem bt_str : bootBuiltins "str" = some (.type "str") := by decide +kernel
theorem bt_list : bootBuiltins "list" = some (.type "list") := by decide +kernel
theorem bt_tuple : bootBuiltins "tuple" = some (.type "tuple") := by decide +kernel
theorem bt_set : bootBuiltins "set" = some (.type "set") := by decide +kernel
theorem bt_len : bootBuiltins "len" = some (.builtin "len") := by decide +kernel
theorem bt_sorted : bootBuiltins "sorted" = some (.builtin "sorted") := by decide +kernel
theorem bt_isinstance : bootBuiltins "isinstance" = some (.builtin "isinstance") := by decide +kernel
theorem bt_repr : bootBuiltins "repr" = some (.builtin "repr") := by decide +kernel
theorem bt_max : bootBuiltins "max" = some (.builtin "max") := by decide +kernel
section
variable {P : Program} {w : World} {K : PySem.W.Frag} {mg : Str → Option Value} {base : Heap} {F : FmKit} {cl : Nat → Addr} {S : FS}
/-- a def of the module, by its promise -/
theorem calD {x : Str} {st : Stmt} {f : Addr} {fd : FuncData} {N ps : List Str} {k : Nat} (hm : mg x = some (.ref f)) (Fn : Fun K x x st f fd) (Sc : FnScope N ps (defScope st)) (len : ∀ ds W post, S ds W post → ds.length = ps.length)
    (hb : ∀ (kV doc pm : Value) (an : Option Addr) (cdv ct : Value) (us : List Value), us.length = ps.length → bindArgs (PySem.W.fnOf x x (defArgs st) (defBody st) (defScope st) .none kV doc pm an cdv ct) ⟨us, []⟩ = pure (ps.zip us))
    (body : ∀ (cdv : Value) (A : Around) (outer : List Env) (s : Shared) (H : Hp) (E : XK), Room k (A.deeper (envOfC x (defScope st) s.heap.objs.size f cdv)) →
      ∃ t, PSs (cxOf CX0 P w K mg base N x (defScope st) f cdv A outer s H E).nox (defBody st) t ∧ ∀ ds W post, S ds W post → Sw F ⟨K, cl⟩ t (startD N ds) W (E_ post)) : Cal P w K mg base (k + 1) x (spN F ⟨K, cl⟩ S) [] :=
  ⟨f, fd, ps, [], okD Fn Sc len body, hm, Fn.kp, Fn.binds hb, .nil⟩
/-- .. that knows that no guard runs -/
structure CalG (P : Program) (w : World) (K : PySem.W.Frag) (mg : Str → Option Value) (base : Heap) (k : Nat) (x : Str) (sp : Sp) : Prop where
  ex : ∃ f : Addr, FnG P w K mg base k f sp ∧ mg x = some (.ref f) ∧ PySem.W.keepIn K (.ref f) = true
theorem calG {x : Str} {st : Stmt} {f : Addr} {fd : FuncData} {N ps : List Str} {k : Nat} (hm : mg x = some (.ref f)) (Fn : Fun K x x st f fd) (Sc : FnScope N ps (defScope st)) (len : ∀ ds W post, S ds W post → ds.length = ps.length)
    (hb : ∀ (kV doc pm : Value) (an : Option Addr) (cdv ct : Value) (us : List Value), us.length = ps.length → bindArgs (PySem.W.fnOf x x (defArgs st) (defBody st) (defScope st) .none kV doc pm an cdv ct) ⟨us, []⟩ = pure (ps.zip us))
    (body : ∀ (cdv : Value) (A : Around) (outer : List Env) (s : Shared) (H : Hp), (A.deeper (envOfC x (defScope st) s.heap.objs.size f cdv)).guards = some [] → Room k (A.deeper (envOfC x (defScope st) s.heap.objs.size f cdv)) →
      ∃ t, PSs (cxOf CX0 P w K mg base N x (defScope st) f cdv A outer s H E0).nox (defBody st) t ∧ ∀ ds W post, S ds W post → Sw F ⟨K, cl⟩ t (startD N ds) W (E_ post)) : CalG P w K mg base (k + 1) x (spN F ⟨K, cl⟩ S) :=
  ⟨f, okG Fn Sc len hb body, hm, Fn.kp⟩
/-- an own method by its promise: operators, str, len -/
structure Opn (P : Program) (w : World) (K : PySem.W.Frag) (mg : Str → Option Value) (base : Heap) (k : Nat) (C : Addr) (m : Str) (sp : Sp) : Prop where
  ex : ∃ (f : Addr) (fd : FuncData) (ps : List Str), Own2 K C m f ∧ FnOk P w K mg base CX0 k f fd ps sp ∧ Binds K fd ps []
theorem opnD {m qual : Str} {C : Addr} {st : Stmt} {f : Addr} {fd : FuncData} {N ps : List Str} {k : Nat} (o : Own2 K C m f) (Fn : Fun K m qual st f fd) (Sc : FnScope N ps (defScope st)) (len : ∀ ds W post, S ds W post → ds.length = ps.length)
    (hb : ∀ (kV doc pm : Value) (an : Option Addr) (cdv ct : Value) (us : List Value), us.length = ps.length → bindArgs (PySem.W.fnOf m qual (defArgs st) (defBody st) (defScope st) .none kV doc pm an cdv ct) ⟨us, []⟩ = pure (ps.zip us))
    (body : ∀ (cdv : Value) (A : Around) (outer : List Env) (s : Shared) (H : Hp) (E : XK), Room k (A.deeper (envOfC qual (defScope st) s.heap.objs.size f cdv)) →
      ∃ t, PSs (cxOf CX0 P w K mg base N qual (defScope st) f cdv A outer s H E).nox (defBody st) t ∧ ∀ ds W post, S ds W post → Sw F ⟨K, cl⟩ t (startD N ds) W (E_ post)) : Opn P w K mg base (k + 1) C m (spN F ⟨K, cl⟩ S) :=
  ⟨f, fd, ps, o, okD Fn Sc len body, Fn.binds hb⟩
/-- a class whose __init__ has a star -/
structure MakR (P : Program) (w : World) (K : PySem.W.Frag) (mg : Str → Option Value) (base : Heap) (k : Nat) (x : Str) (C : Addr) (sp : Sp) : Prop where
  ex : ∃ f : Addr, Mk K C f ∧ FnR P w K mg base CX0 k f sp ∧ mg x = some (.ref C)
end
section
variable {X : Cx} {k j : Nat} {x : Str} {C : Addr} {sp : Sp} {e : Expr} {es : List Expr} {t : TA} {p pos : Pos} {F : FmKit} {T : Kx} {S : FS}
theorem pe_cg (c : CalG X.prog X.w X.K X.mg X.base k x sp) (hgd : X.A.guards = some []) (hr : Room j X.A) (hk : k ≤ j) (hg : Gl X x) (ha : PA X (e :: es) t) (hdb : (x == ("__debug__" : Str)) = false := by decide)
    (he : starEach (e :: es) X.env = (false, eval e X.env) :: starEach es X.env := by rfl) (hpl : (backTo pos (starEach es X.env)).any (·.1) = false := by rfl) : PE X (.Call (.Name x p) (e :: es) [] pos) (tCall sp [] E0 t) := by
  obtain ⟨f, h, hm, hk'⟩ := c.ex
  exact pe_callG h hgd (hr.mono hk) hg hm hk' ha hdb he hpl
theorem pe_mkR (c : MakR X.prog X.w X.K X.mg X.base k x C sp) (hr : Room j X.A) (hk : k + 1 ≤ j) (hg : Gl X x) (ha : PA X (e :: es) t) (hdb : (x == ("__debug__" : Str)) = false := by decide)
    (he : starEach (e :: es) X.env = (false, eval e X.env) :: starEach es X.env := by rfl) (hpl : (backTo pos (starEach es X.env)).any (·.1) = false := by rfl) : PE X (.Call (.Name x p) (e :: es) [] pos) (StX.tMakeR C sp E0 t) := by
  obtain ⟨f, m, h, hm⟩ := c.ex
  exact StX.pe_makeR m h (hr.mono hk) hg hm pass0 ha hdb he hpl
def rStrO (C : Addr) (sp : Sp) : List V → Hp → VK → Prop := fun xs H Q => ∃ a dx fs, xs = [.ref a] ∧ H a = some (.ins C dx fs) ∧ sp [.ref a] H (fun v H' => (∃ z, v = .str z) ∧ Q v H') E0
theorem call_str_opn (o : Opn X.prog X.w X.K X.mg X.base k C "__str__" sp) (hr : Room j X.A) (hk : k + 2 ≤ j) : CallR X (.type "str") (rStrO C sp) := by
  obtain ⟨f, fd, ps, o2, h, b⟩ := o.ex
  exact call_own_str h (hr.mono hk) o2 b pass0
def rLenO (C : Addr) (sp : Sp) : List V → Hp → VK → Prop := fun xs H Q => ∃ a dx fs, xs = [.ref a] ∧ H a = some (.ins C dx fs) ∧ sp [.ref a] H (fun v H' => (∃ n : Int, v = .int n ∧ 0 ≤ n ∧ n < 2 ^ 63) ∧ Q v H') E0
end
section
variable {F : FmKit} {T : Kx} {C H H' O O' : Hp} {G : Gm} {W W' : Om} {R : D → Om → Prop} {S : FS} {ta : TE} {c : Nat}
theorem ev_un {r : V → Hp → VK → Prop} (h : Ev F T ta G W fun d W1 => Ca F T (fun xs H Q => ∃ x, xs = [x] ∧ r x H Q) [d] W1 R) : Ev F T (tUn r ta) G W R := fun C H O σ w Q q =>
  h C H O σ w _ fun d W1 H1 O1 x h1 n1 k1 => by
    obtain ⟨y, e, hr⟩ := h1 C H1 O1 n1.dis n1.oc n1.own [x] (.one k1) Q fun d W' H' O' v rr n k => q d W' H' O' v rr (n1.trans n) k
    cases e
    exact hr
theorem ca_own1 {d : D} {ns : List Str} {l : List D} (i1 : Inst F W d c ns l) (h : Hand S [d] W R) : Ca F T (fun xs H Q => ∃ x, xs = [x] ∧ rOwn1 (T.cl c) (spN F T S) E0 x H Q) [d] W R := ca_one fun C H O di oc ow x k Q q => by
  obtain ⟨a, dx, fs, ex, ha, _⟩ := i1.at di ow k
  exact ⟨x, rfl, a, dx, fs, ex, ha, h.run di oc ow (.one k) q⟩
theorem ca_strO {d : D} {ns : List Str} {l : List D} (i1 : Inst F W d c ns l) (h : Hand S [d] W fun d' W' => (∃ z, d' = .str z) ∧ R d' W') : Ca F T (rStrO (T.cl c) (spN F T S)) [d] W R := ca_one fun C H O di oc ow x k Q q => by
  obtain ⟨a, dx, fs, ex, ha, _⟩ := i1.at di ow k
  subst ex
  refine ⟨a, dx, fs, rfl, ha, h.run di oc ow (.one k) fun d' W' H' O' v ⟨⟨z, ez⟩, r⟩ n kd => ⟨⟨z, ?_⟩, q d' W' H' O' v r n kd⟩⟩
  subst ez
  exact kd
theorem ca_lenO {d : D} {ns : List Str} {l : List D} (i1 : Inst F W d c ns l) (h : Hand S [d] W fun d' W' => (∃ n : Int, d' = .int n ∧ 0 ≤ n ∧ n < 2 ^ 63) ∧ R d' W') : Ca F T (rLenO (T.cl c) (spN F T S)) [d] W R := ca_one fun C H O di oc ow x k Q q => by
  obtain ⟨a, dx, fs, ex, ha, _⟩ := i1.at di ow k
  subst ex
  refine ⟨a, dx, fs, rfl, ha, h.run di oc ow (.one k) fun d' W' H' O' v ⟨⟨z, ez, h0, h1⟩, r⟩ n kd => ⟨⟨z, ?_, h0, h1⟩, q d' W' H' O' v r n kd⟩⟩
  subst ez
  exact kd
end
end N
set_option Elab.async false
set_option linter.all false
set_option maxRecDepth 100000
namespace N
open PySem PySem.Spec PyProof.Rows L2
section
variable {F : FmKit} {T : Kx} {C H H' O O' : Hp} {G : Gm} {W W' : Om} {R : D → Om → Prop} {S : FS} {ta tb te : TE} {tr : TA} {c : Nat} {t u : TT} {Z : Bool → Om → Prop} {ts tz : TS} {E : En}
theorem bo_I0 {g : Int → Int → V} {i j : Int} (h : R (.vl (g i j)) W) : Bo F T (rI0 g) (.int i) (.int j) W R := op_sc fun H Q k => ⟨i, j, rfl, rfl, k _ h⟩
theorem bo_I {Cc : Int → Int → Prop} {g : Int → Int → V} {i j : Int} (hc : Cc i j) (h : R (.vl (g i j)) W) : Bo F T (rI Cc g) (.int i) (.int j) W R := op_sc fun H Q k => ⟨i, j, rfl, rfl, hc, k _ h⟩
theorem bo_eq {x y : V} (hs : scal x y = true) (h : R (.bl (decide (x = y))) W) : Bo F T rEq (.vl x) (.vl y) W R := op_sc fun H Q k => ⟨hs, k _ h⟩
theorem bo_ne {x y : V} (hs : scal x y = true) (h : R (.bl (!decide (x = y))) W) : Bo F T rNe (.vl x) (.vl y) W R := op_sc fun H Q k => ⟨hs, k _ h⟩
theorem dec_int (i j : Int) : decide (V.int i = V.int j) = decide (i = j) := by
  by_cases h : i = j
  · subst h
    simp
  · rw [decide_eq_false h, decide_eq_false (fun e => h (V.int.inj e))]
theorem dec_str (i j : Str) : decide (V.str i = V.str j) = decide (i = j) := by
  by_cases h : i = j
  · subst h
    simp
  · rw [decide_eq_false h, decide_eq_false (fun e => h (V.str.inj e))]
theorem dec_bl (i j : Bool) : decide (V.bl i = V.bl j) = decide (i = j) := by cases i <;> cases j <;> decide
theorem bo_eqI {i j : Int} (h : R (.bl (decide (i = j))) W) : Bo F T rEq (.int i) (.int j) W R := bo_eq rfl (by rw [dec_int]; exact h)
theorem bo_neI {i j : Int} (h : R (.bl (!decide (i = j))) W) : Bo F T rNe (.int i) (.int j) W R := bo_ne rfl (by rw [dec_int]; exact h)
theorem bo_eqS {i j : Str} (h : R (.bl (decide (i = j))) W) : Bo F T rEq (.str i) (.str j) W R := bo_eq rfl (by rw [dec_str]; exact h)
theorem bo_neS {i j : Str} (h : R (.bl (!decide (i = j))) W) : Bo F T rNe (.str i) (.str j) W R := bo_ne rfl (by rw [dec_str]; exact h)
theorem bo_eqB {i j : Bool} (h : R (.bl (decide (i = j))) W) : Bo F T rEq (.bl i) (.bl j) W R := bo_eq rfl (by rw [dec_bl]; exact h)
theorem bo_neB {i j : Bool} (h : R (.bl (!decide (i = j))) W) : Bo F T rNe (.bl i) (.bl j) W R := bo_ne rfl (by rw [dec_bl]; exact h)
theorem ca_int {i : Int} (h : R (.int i) W) : Ca F T (fun xs H Q => (∃ i, xs = [.int i] ∧ Q (.int i) H) ∨ ∃ k, xs = [.bl k] ∧ Q (.int (if k then 1 else 0)) H) [.int i] W R := cl_sc (xs := [.int i]) fun H Q k => .inl ⟨i, rfl, k _ h⟩
theorem ca_intB {b : Bool} (h : R (.int (if b then 1 else 0)) W) : Ca F T (fun xs H Q => (∃ i, xs = [.int i] ∧ Q (.int i) H) ∨ ∃ k, xs = [.bl k] ∧ Q (.int (if k then 1 else 0)) H) [.bl b] W R := cl_sc (xs := [.bl b]) fun H Q k => .inr ⟨b, rfl, k _ h⟩
theorem ca_max2 {i j : Int} (h : R (.int (if j > i then j else i)) W) : Ca F T (fun xs H Q => ∃ i j, xs = [.int i, .int j] ∧ Q (.int (if j > i then j else i)) H) [.int i, .int j] W R := cl_sc (xs := [.int i, .int j]) fun H Q k => ⟨i, j, rfl, k _ h⟩
theorem ca_min2 {i j : Int} (h : R (.int (if j < i then j else i)) W) : Ca F T (fun xs H Q => ∃ i j, xs = [.int i, .int j] ∧ Q (.int (if j < i then j else i)) H) [.int i, .int j] W R := cl_sc (xs := [.int i, .int j]) fun H Q k => ⟨i, j, rfl, k _ h⟩
/-- a chain of comparisons -/
theorem ev_chain {r r' : R2} {tc : TE} (h : Ev F T ta G W fun d1 W1 => Ev F T tb G W1 fun d2 W2 => Bo F T r d1 d2 W2 fun z W3 => ∃ b, z = .bl b ∧ if b = true then Ev F T tc G W3 fun d3 W4 => Bo F T r' d2 d3 W4 R else R (.bl false) W3) : Ev F T (tChain r r' ta tb tc) G W R := fun C H O σ w Q q =>
  h C H O σ w _ fun d1 W1 H1 O1 x h1 n1 k1 => h1 C H1 O1 σ (w.step n1) _ fun d2 W2 H2 O2 y h2 n2 k2 =>
    h2 C H2 O2 n2.dis n2.oc n2.own x y (k1.mono n2.ext) k2 _ fun z W3 H3 O3 v ⟨b, ez, hb⟩ n3 k3 => by
      subst ez
      have k3 : v = .bl b := k3
      refine ⟨b, k3, ?_⟩
      cases b with
      | true => exact hb C H3 O3 σ (((w.step n1).step n2).step n3) _ fun d3 W4 H4 O4 zv h4 n4 k4 => h4 C H4 O4 n4.dis n4.oc n4.own y zv ((k2.mono n3.ext).mono n4.ext) k4 Q fun d W' H' O' v rr n k => q d W' H' O' v rr ((((n1.trans n2).trans n3).trans n4).trans n) k
      | false => exact q _ W3 H3 O3 _ hb ((n1.trans n2).trans n3) rfl
theorem et_chain {r r' : R2} {tc : TE} (h : Ev F T (tChain r r' ta tb tc) G W fun d W1 => ∃ b, d = .bl b ∧ Z b W1) : EvT F T (tTest (tChain r r' ta tb tc)) G W Z := et_test h
theorem if_so {c : Bool} {A B : Prop} (hc : c = true) (h : A) : if c = true then A else B := by rw [if_pos hc]; exact h
theorem if_not {c : Bool} {A B : Prop} (hc : c = false) (h : B) : if c = true then A else B := by rw [if_neg (by rw [hc]; exact Bool.false_ne_true)]; exact h
theorem if_dec {p A B : Prop} [Decidable p] (h1 : p → A) (h2 : ¬ p → B) : if decide p = true then A else B := by
  by_cases h : p
  · exact if_so (decide_eq_true h) (h1 h)
  · exact if_not (decide_eq_false h) (h2 h)
theorem if_ndec {p A B : Prop} [Decidable p] (h1 : ¬ p → A) (h2 : p → B) : if (!decide p) = true then A else B := by
  by_cases h : p
  · exact if_not (by rw [decide_eq_true h]; rfl) (h2 h)
  · exact if_so (by rw [decide_eq_false h]; rfl) (h1 h)
theorem if_bl {c : Bool} {A B : Prop} (h1 : c = true → A) (h2 : c = false → B) : if c = true then A else B := by
  cases c with
  | true => exact if_so rfl (h1 rfl)
  | false => exact if_not rfl (h2 rfl)
/-- slices of lists, in plain data -/
def cutD (xs : List D) (lo hi : Option Int) : List D := (xs.drop (HT.sIx xs.length 0 lo)).take (HT.sIx xs.length xs.length hi - HT.sIx xs.length 0 lo)
theorem DenL.cut {l : List D} {xs : List V} (k : DenL F T H l xs) (lo hi : Option Int) : DenL F T H (cutD l lo hi) (cutV xs lo hi) := by
  unfold cutD cutV
  rw [k.len]
  exact (k.drop _).take _
theorem eo_none {Y : Option Int → Om → Prop} (h : Y none W) : EvO F T tNoPart G W Y := fun C H O σ w Q q => q none W H O h w.nx
theorem eo_some {Y : Option Int → Om → Prop} (h : Ev F T te G W fun d W1 => ∃ i, d = .int i ∧ Y (some i) W1) : EvO F T (tPart te) G W Y := fun C H O σ w Q q =>
  h C H O σ w _ fun d W1 H1 O1 x ⟨i, e, y⟩ n k => by
    subst e
    exact ⟨i, k, q (some i) W1 H1 O1 y n⟩
theorem ev_sl {r : V → Option Int → Option Int → Hp → VK → Prop} {tl th : TO} (h : Ev F T te G W fun d W1 => EvO F T tl G W1 fun lo W2 => EvO F T th G W2 fun hi W3 => Ca F T (fun xs H Q => ∃ x, xs = [x] ∧ r x lo hi H Q) [d] W3 R) : Ev F T (tSl r te tl th) G W R := fun C H O σ w Q q =>
  h C H O σ w _ fun d W1 H1 O1 x h1 n1 k1 => h1 C H1 O1 σ (w.step n1) _ fun lo W2 H2 O2 h2 n2 => h2 C H2 O2 σ ((w.step n1).step n2) _ fun hi W3 H3 O3 h3 n3 => by
    obtain ⟨y, e, hr⟩ := h3 C H3 O3 n3.dis n3.oc n3.own [x] (.one ((k1.mono n2.ext).mono n3.ext)) Q fun d W' H' O' v rr n k => q d W' H' O' v rr (((n1.trans n2).trans n3).trans n) k
    cases e
    exact hr
theorem ca_slL {d : D} {l : List D} {lo hi : Option Int} (hv : Vl W d l) (r : ∀ p, p ∉ akeys W → R (.adr p) ((p, .lst (cutD l lo hi)) :: W)) : Ca F T (fun xs H Q => ∃ x, xs = [x] ∧ rSlL T.K x lo hi H Q) [d] W R := ca_one fun C H O di oc ow x k Q q => by
  obtain ⟨a, xs, e, hs, kl⟩ := hv.sq ow di k
  subst e
  refine ⟨_, rfl, a, xs, rfl, hs, fun p hp => ?_⟩
  obtain ⟨n2, e, np⟩ := (Nx.refl di oc ow).newO (od := .lst (cutD l lo hi)) (o := .lst (cutV xs lo hi)) hp ⟨_, rfl, kl.cut lo hi⟩
  rw [e]
  exact q (.adr p) _ _ _ _ (r p np) n2 rfl
theorem ev_revL (h : Ev F T te G W fun d W1 => ∃ l, Vl W1 d l ∧ ∀ p, p ∉ akeys W1 → R (.adr p) ((p, .lst l.reverse) :: W1)) : Ev F T (tRevL T.K te) G W R := fun C H O σ w Q q =>
  h C H O σ w _ fun d W1 H1 O1 x ⟨l, hv, r⟩ n k => by
    obtain ⟨a, xs, e, hs, kl⟩ := hv.sq n.own n.dis k
    subst e
    refine ⟨a, xs, rfl, hs, fun p hp => ?_⟩
    obtain ⟨n2, e, np⟩ := n.newO (od := .lst l.reverse) (o := .lst xs.reverse) hp ⟨_, rfl, kl.reverse⟩
    rw [e]
    exact q (.adr p) _ _ _ _ (r p np) n2 rfl
end
theorem canLay_ints : ∀ ns : List Int, PyData.canLayAll0 (ns.map .int) = true
  | [] => rfl
  | n :: ns => by
    rw [List.map_cons, PyData.canLayAll0, canLay_ints ns]
    rfl
theorem depth_ints : ∀ ns : List Int, PyData.depthAll (ns.map .int) = 0
  | [] => rfl
  | n :: ns => by
    rw [List.map_cons, PyData.depthAll, depth_ints ns]
    rfl
theorem shaped_ints (ns : List Int) : SeqAt.shaped (.list (ns.map .int)) = true := by
  unfold SeqAt.shaped
  rw [PyData.canLay0, canLay_ints, PyData.depth, depth_ints]
  decide
theorem eqv_nil {ds : List PyData} : (PyData.list ds).eqv (.list []) = ds.isEmpty := by
  cases ds with
  | nil => simp [PyData.eqv, PyData.eqvAll]
  | cons d ds => simp [PyData.eqv, PyData.eqvAll]
theorem vp_ints {W : Om} {d : D} {ns : List Int} (h : Vl W d (ns.map D.int)) : Vp W d (.list (ns.map .int)) := .inr ⟨_, h, pd_lst (pdL_map D.int .int (fun _ => rfl) ns)⟩
theorem vp_nil {W : Om} : Vp W (.lst []) (.list []) := .inl rfl
end N
set_option Elab.async false
set_option linter.all false
set_option maxRecDepth 100000
namespace N
open PySem PySem.Spec PyProof.Rows L2
theorem str_ext {x y : Str} (h : x.cps.toList = y.cps.toList) : x = y := by
  cases x
  cases y
  congr 1
  exact Array.toList_inj.mp h
theorem str_app (x y : Str) : (x ++ y).cps.toList = x.cps.toList ++ y.cps.toList := by
  show (x.cps ++ y.cps).toList = _
  rw [Array.toList_append]
theorem str_len (x : Str) : x.length = x.cps.toList.length := by
  show x.cps.size = _
  rw [Array.length_toList]
theorem str_app_len (x y : Str) : (x ++ y).length = x.length + y.length := by rw [str_len, str_app, List.length_append, ← str_len, ← str_len]
def ltS (x y : Str) : Bool := ltCps x.cps.toList y.cps.toList
theorem ltCps_irrefl : ∀ a : List Nat, ltCps a a = false
  | [] => rfl
  | a :: r => by simp [ltCps, ltCps_irrefl r]
theorem ltCps_trans : ∀ {a b c : List Nat}, ltCps a b = true → ltCps b c = true → ltCps a c = true
  | [], [], c, h, _ => by simp [ltCps] at h
  | [], _ :: _, [], _, h => by simp [ltCps] at h
  | [], _ :: _, _ :: _, _, _ => rfl
  | _ :: _, [], _, h, _ => by simp [ltCps] at h
  | _ :: _, _ :: _, [], _, h => by simp [ltCps] at h
  | x :: a, y :: b, z :: c, h1, h2 => by
    simp only [ltCps, Bool.or_eq_true, decide_eq_true_eq, Bool.and_eq_true, beq_iff_eq] at h1 h2 ⊢
    rcases h1 with h1 | ⟨h1, h3⟩ <;> rcases h2 with h2 | ⟨h2, h4⟩
    · exact .inl (by omega)
    · exact .inl (by omega)
    · exact .inl (by omega)
    · exact .inr ⟨by omega, ltCps_trans h3 h4⟩
theorem ltCps_total : ∀ {a b : List Nat}, ltCps a b = false → ltCps b a = false → a = b
  | [], [], _, _ => rfl
  | [], _ :: _, h, _ => by simp [ltCps] at h
  | _ :: _, [], _, h => by simp [ltCps] at h
  | x :: a, y :: b, h1, h2 => by
    simp only [ltCps, Bool.or_eq_false_iff, decide_eq_false_iff_not, Bool.and_eq_false_iff, beq_eq_false_iff_ne] at h1 h2
    have e : x = y := by omega
    subst e
    rw [ltCps_total (h1.2.resolve_left (by simp)) (h2.2.resolve_left (by simp))]
theorem ltS_irrefl (x : Str) : ltS x x = false := ltCps_irrefl _
theorem ltS_trans {x y z : Str} (h : ltS x y = true) (k : ltS y z = true) : ltS x z = true := ltCps_trans h k
theorem ltS_total {x y : Str} (h : ltS x y = false) (k : ltS y x = false) : x = y := str_ext (ltCps_total h k)
theorem ltS_of {x y : Str} (h : ltS y x = false) (ne : x ≠ y) : ltS x y = true := by
  cases e : ltS x y with
  | true => rfl
  | false => exact absurd (ltS_total e h) ne
theorem rising_all : ∀ {l : List Str} {p : Str}, risingS p l = true → (p :: l).Nodup → (p :: l).Pairwise (fun a b => ltS a b = true)
  | [], p, _, _ => by simp
  | x :: l, p, h, nd => by
    unfold risingS at h
    rw [Bool.and_eq_true] at h
    have h1 : ltS x p = false := by simpa [ltS] using h.1
    rw [List.nodup_cons] at nd
    have ih := rising_all h.2 nd.2
    have px : ltS p x = true := ltS_of h1 (fun e => nd.1 (by rw [e]; exact List.mem_cons_self))
    rw [List.pairwise_cons]
    refine ⟨fun y hy => ?_, ih⟩
    rcases List.mem_cons.mp hy with e | e
    · subst e
      exact px
    · exact ltS_trans px ((List.pairwise_cons.mp ih).1 y e)
theorem sorted_all : ∀ {l : List Str}, sortedS l = true → l.Nodup → l.Pairwise (fun a b => ltS a b = true)
  | [], _, _ => List.Pairwise.nil
  | _ :: _, h, nd => rising_all h nd
/-- two strictly ascending lists with the same members are one -/
theorem asc_ext {α : Type} {lt : α → α → Prop} (ir : ∀ a, ¬ lt a a) (tr : ∀ a b c, lt a b → lt b c → lt a c) : ∀ {l m : List α}, l.Pairwise lt → m.Pairwise lt → (∀ x, x ∈ l ↔ x ∈ m) → l = m
  | [], [], _, _, _ => rfl
  | [], b :: m, _, _, h => absurd ((h b).mpr List.mem_cons_self) (by simp)
  | a :: l, [], _, _, h => absurd ((h a).mp List.mem_cons_self) (by simp)
  | a :: l, b :: m, hl, hm, h => by
    rw [List.pairwise_cons] at hl hm
    have e : a = b := by
      rcases List.mem_cons.mp ((h a).mp List.mem_cons_self) with e | e
      · exact e
      · rcases List.mem_cons.mp ((h b).mpr List.mem_cons_self) with e2 | e2
        · exact e2.symm
        · exact absurd (tr _ _ _ (hl.1 _ e2) (hm.1 _ e)) (ir a)
    subst e
    congr 1
    refine asc_ext ir tr hl.2 hm.2 fun x => ⟨fun hx => ?_, fun hx => ?_⟩
    · rcases List.mem_cons.mp ((h x).mp (List.mem_cons_of_mem _ hx)) with e | e
      · subst e
        exact absurd (hl.1 _ hx) (ir x)
      · exact e
    · rcases List.mem_cons.mp ((h x).mpr (List.mem_cons_of_mem _ hx)) with e | e
      · subst e
        exact absurd (hm.1 _ hx) (ir x)
      · exact e
theorem perm_map_inv {α β : Type} {f : α → β} : ∀ {l : List α} {ys : List β}, ys.Perm (l.map f) → ∃ l' : List α, l'.Perm l ∧ ys = l'.map f
  | [], ys, h => ⟨[], List.Perm.refl _, by simpa using h⟩
  | a :: l, ys, h => by
    have hm : f a ∈ ys := h.mem_iff.mpr (by simp)
    obtain ⟨s, t, e⟩ := List.append_of_mem hm
    subst e
    have h2 : (s ++ t).Perm (l.map f) := by
      have h3 : (f a :: (s ++ t)).Perm (f a :: l.map f) := List.perm_middle.symm.trans (by simpa using h)
      exact (List.perm_cons _).mp h3
    obtain ⟨l', p, e⟩ := perm_map_inv h2
    obtain ⟨l1, l2, e1, e2, e3⟩ := List.map_eq_append_iff.mp e.symm
    subst e1 e2 e3
    exact ⟨l1 ++ a :: l2, List.perm_middle.trans ((List.perm_cons _).mpr p), by simp⟩
def insN (n : Nat) : List Nat → List Nat
  | [] => [n]
  | m :: r => if n = m then m :: r else if n < m then n :: m :: r else m :: insN n r
def unite (x y : Str) : Str := if x = y then x else ⟨((x.cps.toList ++ y.cps.toList).foldr insN []).toArray⟩
namespace Fm
def kind : Fm → Str
  | .at _ => "atom"
  | .no => "no"
  | .imp _ _ => "if"
  | .all _ => "all"
def many : Fm → Nat
  | .at _ => 1
  | .no => 1
  | .imp a b => 1 + a.many + b.many
  | .all a => 1 + a.many
def deep : Fm → Nat
  | .at _ => 0
  | .no => 0
  | .imp a b => max a.deep b.deep
  | .all a => 1 + a.deep
def atoms : Fm → Str
  | .at c => ⟨#[c]⟩
  | .no => ""
  | .imp a b => unite a.atoms b.atoms
  | .all a => a.atoms
/-- the atoms outside of all all-parts -/
def outer : Fm → Str
  | .at c => ⟨#[c]⟩
  | .no => ""
  | .imp a b => unite a.outer b.outer
  | .all _ => ""
def spell : Fm → Str
  | .at c => ⟨#[c]⟩
  | .no => "no"
  | .imp a b => "(" ++ a.spell ++ " > " ++ b.spell ++ ")"
  | .all a => "all " ++ a.spell
def ins (g : Fm) : List Fm → List Fm
  | [] => [g]
  | h :: r => if g = h then h :: r else if ltS g.spell h.spell then g :: h :: r else h :: ins g r
def merge (xs ys : List Fm) : List Fm := if xs = [] then ys else if ys = [] then xs else (xs ++ ys).foldr ins []
def alls : Fm → List Fm
  | .at _ => []
  | .no => []
  | .imp a b => merge a.alls b.alls
  | .all a => merge a.alls [.all a]
/-- the length of the text -/
def sz : Fm → Nat
  | .at _ => 1
  | .no => 2
  | .imp a b => 5 + a.sz + b.sz
  | .all a => 4 + a.sz
/-- no atom in it -/
def bare : Fm → Prop
  | .at _ => False
  | .no => True
  | .imp a b => a.bare ∧ b.bare
  | .all a => a.bare
theorem spell_len : ∀ f : Fm, f.spell.length = f.sz
  | .at _ => rfl
  | .no => rfl
  | .imp a b => by
    have h1 : ("(" : Str).length = 1 := rfl
    have h2 : (" > " : Str).length = 3 := rfl
    have h3 : (")" : Str).length = 1 := rfl
    simp only [spell, sz, str_app_len, spell_len a, spell_len b, h1, h2, h3]
    omega
  | .all a => by
    have h1 : ("all " : Str).length = 4 := rfl
    simp only [spell, sz, str_app_len, spell_len a, h1]
def ltF (f g : Fm) : Prop := ltS f.spell g.spell = true
def cs (f : Fm) : List Nat := f.spell.cps.toList
theorem cs_imp (a b : Fm) : cs (.imp a b) = 40 :: (a.cs ++ (32 :: 62 :: 32 :: (b.cs ++ [41]))) := by
  have h1 : ("(" : Str).cps.toList = [40] := rfl
  have h2 : (" > " : Str).cps.toList = [32, 62, 32] := rfl
  have h3 : (")" : Str).cps.toList = [41] := rfl
  simp [cs, spell, str_app, h1, h2, h3]
theorem cs_all (a : Fm) : cs (.all a) = 97 :: 108 :: 108 :: 32 :: a.cs := by
  have h1 : ("all " : Str).cps.toList = [97, 108, 108, 32] := rfl
  simp [cs, spell, str_app, h1]
theorem cs_no : cs .no = [110, 111] := rfl
theorem cs_at (c : Nat) : cs (.at c) = [c] := rfl
/-- behind a formula stands nothing, a blank or a bracket -/
def stop (r : List Nat) : Prop := ∀ c t, r = c :: t → c = 32 ∨ c = 41
/-- letters -/
def okL : Fm → Prop
  | .at c => (65 ≤ c ∧ c ≤ 90) ∨ (97 ≤ c ∧ c ≤ 122)
  | .no => True
  | .imp a b => a.okL ∧ b.okL
  | .all a => a.okL
theorem bare_ok : ∀ {f : Fm}, f.bare → f.okL
  | .at _, h => h.elim
  | .no, _ => trivial
  | .imp _ _, h => ⟨bare_ok h.1, bare_ok h.2⟩
  | .all a, h => bare_ok (f := a) h
theorem cs_inj : ∀ (f g : Fm), f.okL → g.okL → ∀ r s : List Nat, stop r → stop s → f.cs ++ r = g.cs ++ s → f = g ∧ r = s
  | .at c, .at d, _, _, r, s, _, _, h => by
    rw [cs_at, cs_at] at h
    injection h with h1 h2
    exact ⟨by rw [h1], h2⟩
  | .at c, .no, _, _, r, s, hr, _, h => by
    rw [cs_at, cs_no] at h
    injection h with h1 h2
    rcases hr 111 s h2 with e | e <;> cases e
  | .at c, .imp a b, hc, _, r, s, hr, _, h => by
    rw [cs_at, cs_imp] at h
    injection h with h1 h2
    simp only [okL] at hc
    omega
  | .at c, .all a, _, _, r, s, hr, _, h => by
    rw [cs_at, cs_all] at h
    injection h with h1 h2
    rcases hr _ _ h2 with e | e <;> cases e
  | .no, .at d, _, _, r, s, _, hs, h => by
    rw [cs_at, cs_no] at h
    injection h with h1 h2
    rcases hs 111 r h2.symm with e | e <;> cases e
  | .no, .no, _, _, r, s, _, _, h => by
    rw [cs_no] at h
    simp at h
    exact ⟨rfl, h⟩
  | .no, .imp a b, _, _, r, s, _, _, h => by
    rw [cs_no, cs_imp] at h
    injection h with h1 h2
    cases h1
  | .no, .all a, _, _, r, s, _, _, h => by
    rw [cs_no, cs_all] at h
    injection h with h1 h2
    cases h1
  | .imp a b, .at d, _, hd, r, s, _, hs, h => by
    rw [cs_at, cs_imp] at h
    injection h with h1 h2
    simp only [okL] at hd
    omega
  | .imp a b, .no, _, _, r, s, _, _, h => by
    rw [cs_no, cs_imp] at h
    injection h with h1 h2
    cases h1
  | .imp a b, .all c, _, _, r, s, _, _, h => by
    rw [cs_all, cs_imp] at h
    injection h with h1 h2
    cases h1
  | .all a, .at d, _, _, r, s, _, hs, h => by
    rw [cs_at, cs_all] at h
    injection h with h1 h2
    rcases hs _ _ h2.symm with e | e <;> cases e
  | .all a, .no, _, _, r, s, _, _, h => by
    rw [cs_no, cs_all] at h
    injection h with h1 h2
    cases h1
  | .all a, .imp b c, _, _, r, s, _, _, h => by
    rw [cs_all, cs_imp] at h
    injection h with h1 h2
    cases h1
  | .all a, .all b, ha, hb, r, s, hr, hs, h => by
    rw [cs_all, cs_all] at h
    simp only [List.cons_append, List.cons.injEq, true_and] at h
    obtain ⟨e, e2⟩ := cs_inj a b ha hb r s hr hs h
    exact ⟨by rw [e], e2⟩
  | .imp a b, .imp c d, ha, hb, r, s, hr, hs, h => by
    rw [cs_imp, cs_imp] at h
    simp only [List.cons_append, List.append_assoc, List.cons.injEq, true_and] at h
    obtain ⟨e, e2⟩ := cs_inj a c ha.1 hb.1 _ _ (by intro c t e; injection e with e; exact .inl e.symm) (by intro c t e; injection e with e; exact .inl e.symm) h
    subst e
    simp only [List.cons.injEq, true_and] at e2
    obtain ⟨e3, e4⟩ := cs_inj b d ha.2 hb.2 _ _ (by intro c t e; injection e with e; exact .inr e.symm) (by intro c t e; injection e with e; exact .inr e.symm) e2
    subst e3
    simp at e4
    exact ⟨rfl, e4⟩
theorem spell_inj {f g : Fm} (hf : f.okL) (hg : g.okL) (h : f.spell = g.spell) : f = g := by
  refine (cs_inj f g hf hg [] [] (by intro c t e; cases e) (by intro c t e; cases e) ?_).1
  simp [cs, h]
def asc (l : List Fm) : Prop := l.Pairwise ltF
theorem ltF_irrefl (f : Fm) : ¬ ltF f f := by
  unfold ltF
  rw [ltS_irrefl]
  exact Bool.false_ne_true
theorem ltF_trans (f g h : Fm) : ltF f g → ltF g h → ltF f h := fun a b => ltS_trans a b
theorem asc_eq {l m : List Fm} (h : asc l) (k : asc m) (e : ∀ x, x ∈ l ↔ x ∈ m) : l = m := asc_ext ltF_irrefl ltF_trans h k e
theorem mem_ins {g x : Fm} : ∀ {l : List Fm}, x ∈ ins g l ↔ x = g ∨ x ∈ l
  | [] => by simp [ins]
  | h :: r => by
    unfold ins
    split
    · rename_i e
      subst e
      simp
    · split
      · simp
      · rw [List.mem_cons, mem_ins, List.mem_cons]
        constructor
        · rintro (h | h | h)
          · exact .inr (.inl h)
          · exact .inl h
          · exact .inr (.inr h)
        · rintro (h | h | h)
          · exact .inr (.inl h)
          · exact .inl h
          · exact .inr (.inr h)
theorem asc_ins {g : Fm} (hg : g.okL) : ∀ {l : List Fm}, asc l → (∀ x ∈ l, okL x) → asc (ins g l)
  | [], _, _ => by simp [ins, asc]
  | h :: r, hl, ho => by
    unfold asc at hl
    rw [List.pairwise_cons] at hl
    unfold ins
    split
    · exact List.pairwise_cons.mpr hl
    · rename_i ne
      split
      · rename_i lt
        refine List.pairwise_cons.mpr ⟨fun y hy => ?_, List.pairwise_cons.mpr hl⟩
        rcases List.mem_cons.mp hy with e | e
        · subst e
          exact lt
        · exact ltF_trans _ _ _ lt (hl.1 y e)
      · rename_i nlt
        refine List.pairwise_cons.mpr ⟨fun y hy => ?_, asc_ins hg hl.2 fun x hx => ho x (List.mem_cons_of_mem _ hx)⟩
        rcases mem_ins.mp hy with e | e
        · subst e
          refine ltS_of (by simpa using nlt) fun e => ne ?_
          exact (spell_inj (ho _ List.mem_cons_self) hg e).symm
        · exact hl.1 y e
theorem mem_fold {x : Fm} : ∀ {l : List Fm}, x ∈ l.foldr ins [] ↔ x ∈ l
  | [] => by simp
  | g :: l => by rw [List.foldr_cons, mem_ins, mem_fold, List.mem_cons]
theorem asc_fold : ∀ {l : List Fm}, (∀ x ∈ l, okL x) → asc (l.foldr ins [])
  | [], _ => List.Pairwise.nil
  | g :: l, h => asc_ins (h g List.mem_cons_self) (asc_fold fun x hx => h x (List.mem_cons_of_mem _ hx)) fun x hx => h x (List.mem_cons_of_mem _ (mem_fold.mp hx))
theorem mem_merge {x : Fm} {l m : List Fm} : x ∈ merge l m ↔ x ∈ l ∨ x ∈ m := by
  unfold merge
  split
  · rename_i e
    subst e
    simp
  · split
    · rename_i e
      subst e
      simp
    · rw [mem_fold, List.mem_append]
theorem asc_merge {l m : List Fm} (hl : asc l) (hm : asc m) (ol : ∀ x ∈ l, okL x) (om : ∀ x ∈ m, okL x) : asc (merge l m) := by
  unfold merge
  split
  · exact hm
  · split
    · exact hl
    · refine asc_fold fun x hx => ?_
      rcases List.mem_append.mp hx with h | h
      · exact ol x h
      · exact om x h
theorem alls_sub : ∀ {f : Fm}, f.okL → (∀ x ∈ f.alls, okL x) ∧ asc f.alls
  | .at _, _ => ⟨fun _ h => by simp [alls] at h, List.Pairwise.nil⟩
  | .no, _ => ⟨fun _ h => by simp [alls] at h, List.Pairwise.nil⟩
  | .imp a b, h => by
    obtain ⟨h1, h2⟩ := alls_sub h.1
    obtain ⟨h3, h4⟩ := alls_sub h.2
    exact ⟨fun x hx => (mem_merge.mp hx).elim (h1 x) (h3 x), asc_merge h2 h4 h1 h3⟩
  | .all a, h => by
    obtain ⟨h1, h2⟩ := alls_sub (f := a) h
    have h3 : ∀ x ∈ [Fm.all a], okL x := fun x hx => by
      rw [List.mem_singleton] at hx
      subst hx
      exact h
    exact ⟨fun x hx => (mem_merge.mp hx).elim (h1 x) (h3 x), asc_merge h2 (by simp [asc]) h1 h3⟩
end Fm
/-- the kit of formulas -/
@[reducible] def FK : FmKit where
  kind := Fm.kind
  many f := (f.many : Nat)
  deep f := (f.deep : Nat)
  atoms := Fm.atoms
  bare := Fm.outer
  spell := Fm.spell
  alls := Fm.alls
end N
set_option Elab.async false
set_option linter.all false
set_option maxRecDepth 100000
namespace N
open PySem PySem.Spec PyProof.Rows L2
open C8 (InsC)
theorem len_ok {n : Nat} (h : n ≤ 1000) : n ≤ sizeLine := by
  have := sizeLine_eq
  omega
section
variable {F : FmKit} {T : Kx} {C H H' O O' : Hp} {G : Gm} {W W' : Om} {σ : L2.St} {a p : Addr} {d : D} {l : List D}
  {te ta tb : TE} {t u : TT} {R R' : D → Om → Prop} {Z : Bool → Om → Prop} {tr tk : TA} {ts tz : TS}
theorem ca_drp {r : List V → Hp → VK → Prop} {ds : List D} (h : Ca F T r ds W fun d W' => ∃ W2, W2.Sublist W' ∧ R d W2) : Ca F T r ds W R := fun C H O di oc ow xs hx Q q => h C H O di oc ow xs hx Q fun d W' H' O' v ⟨W2, s, r⟩ n k => q d W2 H' O' v r ⟨n.ext, n.dis, n.oc, n.own.sub s⟩ k
def TyD (F : FmKit) (T : Kx) (W : Om) (d : D) (t : Value) : Prop := ∀ (C H O : Hp), Dis O H → Ow F T H C O W → ∀ x, Den F T H d x → TyX T.K (ov O H) x t
theorem ca_isi {c : V} {t u : Value} {b : Bool} (hc : ClsV c u) (ht : TyD F T W d t) (e : PySem.W.kitOne T.K t u = some b) (r : R (.bl b) W) : Ca F T (rIsi T.K) [d, .vl c] W R := ca_two fun C H O di oc ow x y hx hy Q q => by
  have hy : y = c := hy
  subst hy
  exact ⟨x, y, t, u, b, rfl, hc, ht C H O di ow x hx, e, q _ W H O _ r (.refl di oc ow) rfl⟩
theorem tyd_str {s : Str} : TyD F T W (.str s) (.type "str") := fun C H O di ow x k => by
  have k : x = .str s := k
  subst k
  exact .base (.str s)
theorem tyd_int {i : Int} : TyD F T W (.int i) (.type "int") := fun C H O di ow x k => by
  have k : x = .int i := k
  subst k
  exact .base (.int i)
theorem tyd_bl {i : Bool} : TyD F T W (.bl i) (.type "bool") := fun C H O di ow x k => by
  have k : x = .bl i := k
  subst k
  exact .base (.bl i)
theorem tyd_ins {c : Nat} {ns : List Str} (i : Inst F W d c ns l) (z : InsC T.K (T.cl c)) : TyD F T W d (.ref (T.cl c)) := fun C H O di ow x k => by
  obtain ⟨a, dx, fs, e, h1, h2, h3⟩ := i.at di ow k
  subst e
  exact .base (.ins h1 z.cl z.ha z.hn z.htk z.hm)
theorem isi_str {R : D → Om → Prop} {s : Str} (r : R (.bl true) W) : Ca F T (rIsi T.K) [.str s, .vl (.ty "str")] W R := ca_isi (.ty "str") tyd_str (by unfold PySem.W.kitOne; rfl) r
theorem isi_ins {c : Nat} {ns : List Str} (i : Inst F W d c ns l) (z : InsC T.K (T.cl c)) (r : R (.bl true) W) : Ca F T (rIsi T.K) [d, .adr (T.cl c)] W R := ca_isi (.own _) (tyd_ins i z) z.me r
theorem bo_addS {x y : Str} (hl : x.length + y.length ≤ sizeLine) (r : R (.str (x ++ y)) W) : Bo F T (fun x y H Q => ∃ i j, x = .str i ∧ y = .str j ∧ i.length + j.length ≤ sizeLine ∧ Q (.str (i ++ j)) H) (.str x) (.str y) W R :=
  op_sc fun H Q k => ⟨x, y, rfl, rfl, hl, k _ r⟩
theorem ev_fmt (h : Ev F T te G W fun d W1 => ∃ y : Str, d = .str y ∧ y.length ≤ sizeLine ∧ R (.str y) W1) : Ev F T (tFmt te) G W R := fun C H O σ w Q q =>
  h C H O σ w _ fun d W1 H1 O1 x ⟨y, e, hl, r⟩ n k => by
    subst e
    have k : x = .str y := k
    exact .inl ⟨y, k, hl, q _ W1 H1 O1 _ r n rfl⟩
/-- the parts of an f-string -/
def EvJ (F : FmKit) (T : Kx) : List TE → Str → Gm → Om → (Str → Om → Prop) → Prop
  | [], acc, _, W, Y => Y acc W
  | te :: ts, acc, G, W, Y => Ev F T te G W fun d W1 => ∃ y : Str, d = .str y ∧ (acc ++ y).length ≤ sizeLine ∧ EvJ F T ts (acc ++ y) G W1 Y
theorem EvJ.run {Y : Str → Om → Prop} : ∀ {ts : List TE} {acc : Str} {W : Om} {H O : Hp}, EvJ F T ts acc G W Y → Wd F T C G W H O σ → ∀ Q : Str → Hp → Prop, (∀ z W' H' O', Y z W' → Nx F T C W' H H' O' → Q z (ov O' H')) → tJs ts acc σ (ov O H) Q
  | [], acc, W, H, O, h, w, Q, q => q acc W H O h w.nx
  | te :: ts, acc, W, H, O, h, w, Q, q => h C H O σ w _ fun d W1 H1 O1 x ⟨y, e, hl, r⟩ n k => by
    subst e
    have k : x = .str y := k
    exact ⟨y, k, hl, EvJ.run r (w.step n) Q fun z W' H' O' yy n2 => q z W' H' O' yy (n.trans n2)⟩
theorem ev_joined {es : List TE} (h : EvJ F T es Str.empty G W fun z W' => R (.str z) W') : Ev F T (fun σ H Q => tJs es Str.empty σ H fun out H1 => Q (.str out) H1) G W R := fun C H O σ w Q q =>
  h.run w _ fun z W' H' O' y n => q _ W' H' O' _ y n rfl
theorem bo_catA {xs ys : List D} (hl : xs.length + ys.length ≤ sizeLine) (r : R (.tup (xs ++ ys)) W) : Bo F T (rCatA T.K) (.tup xs) (.tup ys) W R := fun C H O di oc ow x y hx hy Q q => by
  obtain ⟨a, us, ex, hs, kl⟩ := hx
  obtain ⟨b, vs, ey, ht, km⟩ := hy
  have n := Nx.refl di oc ow
  refine ⟨a, b, us, vs, ex, ey, Same.sqT di.same hs, Same.sqT di.same ht, by rw [kl.len, km.len]; exact hl, fun e => ?_, fun _ e => ?_, fun _ _ p hp => ?_⟩
  · subst e
    have e : xs = [] := by
      have := kl.len
      simpa using this.symm
    subst e
    exact q _ W H O _ r n ⟨b, vs, rfl, ht, km⟩
  · subst e
    have e : ys = [] := by
      have := km.len
      simpa using this.symm
    subst e
    exact q _ W H O _ r n ⟨a, us, rfl, hs, by rw [List.append_nil]; exact kl⟩
  · obtain ⟨n2, e2, s2⟩ := n.newF (o := .tup (us ++ vs)) hp
    rw [e2]
    exact q _ W _ O _ r n2 ⟨p, _, rfl, SqT.of upd_same, (kl.mono s2).app (km.mono s2)⟩
theorem bo_knin {dd : Addr} {z : Str} {r0 : Option Value} (e : PySem.W.nsIn T.K dd z = some r0) (r : R (.bl (!r0.isSome)) W) :
    Bo F T (fun x y H Q => ∃ (z : Str) (r : Option Value), x = .str z ∧ y = .ref dd ∧ PySem.W.nsIn T.K dd z = some r ∧ Q (.bl (!r.isSome)) H) (.str z) (.adr dd) W R := op_sc fun H Q k => ⟨z, r0, rfl, rfl, e, k _ r⟩
theorem bo_kix {w : World} {dd : Addr} {z : Str} {v : V} (e : KDct T.K w dd z v) (r : R (.vl v) W) : Bo F T (rIxD T.K w) (.adr dd) (.str z) W R := op_sc fun H Q k => ⟨dd, z, v, rfl, rfl, e, k _ r⟩
theorem ca_sortedD {ps : List (Key × D)} {ks : List Str} (hv : Vd W d ps) (hk : ps.map (·.1) = ks.map Sum.inr) (hl : ks.length < 64) (r : ∀ ys : List Str, ys.Perm ks → sortedS ys = true → R (.lst (ys.map D.str)) W) :
    Ca F T (fun xs H Q => ∃ (a : Addr) (kvs : List (Key × V)) (ks : List Str), xs = [.ref a] ∧ Rd H a (.dK kvs) ∧ kvs.map (·.1) = ks.map Sum.inr ∧ ks.length < 64 ∧
      ∀ ys p, ys.Perm ks → sortedS ys = true → H p = none → Q (.ref p) (upd H p (.lst (ys.map V.str)))) [d] W R := ca_one fun C H O di oc ow x k Q q => by
  obtain ⟨a, kvs, e, h1, h2, h3, h4⟩ := hv.at di ow k
  refine ⟨a, kvs, ks, by rw [e], .inl h1, h2.trans hk, hl, fun ys p hp hs hn => ?_⟩
  obtain ⟨n2, e2, s2⟩ := (Nx.refl (F := F) (T := T) di oc ow).newF (o := .lst (ys.map V.str)) hn
  rw [e2]
  refine q _ W _ O _ (r ys hp hs) n2 ⟨p, _, rfl, upd_same, ?_⟩
  have := DenL.vls (F := F) (T := T) (H := upd H p (.lst (ys.map V.str))) (ys.map V.str)
  rw [List.map_map] at this
  exact this
end
end N
set_option Elab.async false
set_option linter.all false
set_option maxRecDepth 100000
set_option maxHeartbeats 4000000
namespace N
open PySem PySem.Spec PyProof.Rows L2
def txOf (e : Int × Value) : Str := match e.2 with
  | .str k _ => k
  | _ => Str.empty
def GoodT (w : World) (e : Int × Value) : Prop := ∃ k tk, e.2 = Value.str k tk ∧ e.1 = hashStr w k
/-- the set of texts at a -/
def SetT (w : World) (h : Heap) (a : Addr) (M : Str → Bool) (n : Nat) : Prop :=
  ∃ o es ep t, h.get? a = some o ∧ o.ExactSet ∧ o.data = .set es ep t ∧ (∀ e ∈ es.toList, GoodT w e) ∧ (es.toList.map txOf).Nodup ∧ (∀ k, M k = true ↔ k ∈ es.toList.map txOf) ∧
    es.size < scanBound ∧ t.fits es.size = true ∧ es.size = n ∧ Ris t.place.toList ∧ (w.params.followText "set-order" = true ∨ t.led = true)
section
variable {P : Program} {w : World} {h h' : Heap} {a : Addr} {M : Str → Bool} {n : Nat}
theorem SetT.at (R : SetT w h a M n) (k : ∀ o, h.get? a = some o → h'.get? a = some o) : SetT w h' a M n := let ⟨o, es, ep, t, ho, r⟩ := R; ⟨o, es, ep, t, k o ho, r⟩
theorem SetT.lt (R : SetT w h a M n) : a < h.objs.size := let ⟨_, _, _, _, ho, _⟩ := R; Heap.lt_size ho
theorem SetT.congr {M' : Str → Bool} (R : SetT w h a M n) (e : ∀ k, M' k = M k) : SetT w h a M' n := (funext e : M' = M) ▸ R
theorem goodT_elems {l : List (Int × Value)} (g : ∀ e ∈ l, GoodT w e) : ElemsOf (strKind P w) l := fun e he => by
  obtain ⟨k, tk, h1, h2⟩ := g e he
  refine ⟨⟨k, ?_, h2⟩, by rw [h1]; rfl⟩
  rw [h1]
  exact strKind_is P w k tk
theorem goodT_is {e : Int × Value} (g : GoodT w e) (k : Str) : (strKind P w).is k e.2 = true ↔ txOf e = k := by
  obtain ⟨k0, tk, h1, _⟩ := g
  unfold txOf
  rw [h1]
  constructor
  · intro h
    obtain ⟨u, hu⟩ := Value.isStrOf_shape (show Value.isStrOf k (Value.str k0 tk) = true from h)
    injection hu
  · intro h
    have h : k0 = k := h
    subst h
    exact strKind_is P w _ _
theorem goodT_mem {l : List (Int × Value)} (g : ∀ e ∈ l, GoodT w e) (k : Str) : k ∈ l.map txOf ↔ ∃ e ∈ l, (strKind P w).is k e.2 = true := by
  rw [List.mem_map]
  exact ⟨fun ⟨e, he, q⟩ => ⟨e, he, (goodT_is (g e he) k).2 q⟩, fun ⟨e, he, q⟩ => ⟨e, he, (goodT_is (g e he) k).1 q⟩⟩
end
section
variable {P : Program} {w : World} {A : Around} {E : Value → Shared → Prop} {s : Shared} {a : Addr} {M : Str → Bool} {n : Nat}
theorem setT_tail {g : Bool → Sem Unit} (hg : ∀ (b : Bool) (z : Shared) (Z : Unit → Shared → Prop), Z () z → wpAny (model P w) A (g b) Z E z)
    {o : Obj} {es : Array (Int × Value)} {ep : Nat} {t : SetTable} (ho : s.heap.get? a = some o) (hex : o.ExactSet) (hd : o.data = .set es ep t)
    {es1 : Array (Int × Value)} {t2 : SetTable} {M' : Str → Bool} (g1 : ∀ e ∈ es1.toList, GoodT w e) (nd1 : (es1.toList.map txOf).Nodup) (m1 : ∀ k, M' k = true ↔ k ∈ es1.toList.map txOf)
    (hb1 : es1.size < scanBound) (hf2 : t2.fits es1.size = true) (hr : Ris t2.place.toList) (hl : w.params.followText "set-order" = true ∨ t2.led = true) {wd : Bool} {R : Option Bool → Shared → Prop}
    (hR : ∀ h', Heap.SameBut a s.heap h' → SetT w h' a M' es1.size → R (some true) { s with heap := h' }) :
    wpAny (model P w) A (do
        storeSet a es1 t2
        if (!wd && t2.tooFull) = true then do
            g (relayAll t2 es1 (SetTable.grown es1.size)).2.2
            storeSet a (relayAll t2 es1 (SetTable.grown es1.size)).1 (relayAll t2 es1 (SetTable.grown es1.size)).2.1
            pure (some true)
          else pure (some true)) R E s := by
  refine wpAny_bind (wpAny_storeSet_of ho hd ?_ (fits_of_scanBound hb1))
  have o1 := store_at (es' := es1) (t' := t2) ho hd
  have b1 := Heap.SameBut.update s.heap a (Obj.putSet es1 t2)
  split
  · have pm := relayAll_perm t2 es1 (SetTable.grown es1.size)
    have f3 := relayAll_fits t2 es1 (SetTable.grown es1.size)
    have r3 := relayAll_ris t2 es1 (SetTable.grown es1.size)
    have l3 := relayAll_led t2 es1 (SetTable.grown es1.size)
    generalize relayAll t2 es1 (SetTable.grown es1.size) = Y at pm f3 r3 l3 ⊢
    obtain ⟨es2, t3, gave⟩ := Y
    dsimp only at pm f3 r3 l3 ⊢
    have hz : es2.size = es1.size := by rw [← Array.length_toList, pm.length_eq, Array.length_toList]
    have b2 : es2.size < scanBound := hz ▸ hb1
    refine wpAny_bind (hg _ _ _ (wpAny_bind (wpAny_storeSet_of o1 rfl (wpAny_pure (hR _ (b1.trans (Heap.SameBut.update _ a _)) ?_)) (fits_of_scanBound b2))))
    exact ⟨_, es2, _, t3, store_at (es' := es2) (t' := t3) o1 rfl, hex, rfl, fun e he => g1 e (pm.mem_iff.mp he), (pm.map txOf).nodup_iff.mpr nd1, fun k => (m1 k).trans (pm.map txOf).mem_iff.symm, b2, f3, hz, r3, hl.imp id fun z => l3.trans z⟩
  · exact wpAny_pure (hR _ b1 ⟨_, es1, _, t2, o1, hex, rfl, g1, nd1, m1, hb1, hf2, rfl, hr, hl⟩)
theorem setT_add_hashed {k : Str} {tk : Tok} {Q : Bool → Shared → Prop} (R : SetT w s.heap a M n) (room : n + 1 < scanBound)
    (hQ : ∀ h', Heap.SameBut a s.heap h' → SetT w h' a (fun j => M j || decide (j = k)) (if M k = true then n else n + 1) → Q (!M k) { s with heap := h' }) :
    wpAny (model P w) A (setAddHashed a (.str k tk) ((strKind P w).hash k)) Q E s := by
  obtain ⟨o, es, ep, t, ho, hex, hd, g, nd, hm, hb, hf, hn, hr, hl⟩ := R
  have hk : (strKind P w).is k (.str k tk) = true := strKind_is P w k tk
  have sc : (Value.str k tk).scannable = true := rfl
  have hel : ElemsOf (strKind P w) es.toList := goodT_elems g
  unfold setAddHashed setAddHashedIn
  refine wpAny_holding (wpAny_bind (wpAny_setState_of ho hd hf ?_))
  dsimp only
  rw [byScan_of sc hb hel]
  simp only [↓reduceIte]
  unfold setAddByScan
  refine wpAny_bind (wpAny_bind (wpAny_rule (wpAny_bind (wpAny_setScan_of hk ho hd hf hel ?_))))
  cases hfi : List.findIdx? (fun e => (strKind P w).is k e.2) es.toList with
  | some j =>
    dsimp only
    obtain ⟨hj, pj, _⟩ := List.findIdx?_eq_some_iff_getElem.mp hfi
    have hM : M k = true := (hm k).2 ((goodT_mem (P := P) g k).2 ⟨es.toList[j], List.getElem_mem hj, pj⟩)
    refine wpAny_pure (wpAny_pure ?_)
    have q := hQ s.heap (Heap.SameBut.refl a s.heap) ⟨o, es, ep, t, ho, hex, hd, g, nd, fun i => by
      rw [Bool.or_eq_true, decide_eq_true_eq, ← hm i]
      exact ⟨fun z => z.elim id (fun e => e ▸ hM), .inl⟩, hb, hf, by rw [if_pos hM]; exact hn, hr, hl⟩
    rw [hM] at q
    exact q
  | none =>
    dsimp only
    have nk : k ∉ es.toList.map txOf := fun z => by
      obtain ⟨e, he, q⟩ := (goodT_mem (P := P) g k).1 z
      have c := List.findIdx?_eq_none_iff.mp hfi e he
      rw [q] at c
      cases c
    have hM : M k = false := by
      cases q : M k with
      | false => rfl
      | true => exact absurd ((hm k).1 q) nk
    have gw : ∀ (b : Bool) {z : Shared} {Z : Unit → Shared → Prop}, Z () z → wpAny (model P w) A (match b with | true => rule "set.scan.the-table-gave-way" | false => pure ()) Z E z :=
      fun b z Z q => by cases b <;> first | exact wpAny_pure q | exact wpAny_rule q
    have pm := layNew_perm t es ((strKind P w).hash k) (.str k tk)
    have f1 := layNew_fits t es ((strKind P w).hash k) (.str k tk)
    have r1 := layNew_ris t es ((strKind P w).hash k) (.str k tk) hr
    have l1 := layNew_led t es ((strKind P w).hash k) (.str k tk)
    generalize layNew t es ((strKind P w).hash k) (.str k tk) = Y at pm f1 r1 l1 ⊢
    obtain ⟨es1, t1, wd, gave⟩ := Y
    dsimp only at pm f1 r1 l1 ⊢
    rw [Array.toList_push] at pm
    have pc : es1.toList.Perm (((strKind P w).hash k, Value.str k tk) :: es.toList) := pm.trans (List.perm_append_singleton _ _)
    have pk : (es1.toList.map txOf).Perm (k :: es.toList.map txOf) := pc.map txOf
    have g1 : ∀ e ∈ es1.toList, GoodT w e := fun e he => by
      rcases List.mem_cons.mp (pc.mem_iff.mp he) with z | z
      · rw [z]; exact ⟨k, tk, rfl, rfl⟩
      · exact g e z
    have nd1 : (es1.toList.map txOf).Nodup := pk.nodup_iff.mpr (List.nodup_cons.mpr ⟨nk, nd⟩)
    have m1 : ∀ i, (M i || decide (i = k)) = true ↔ i ∈ es1.toList.map txOf := fun i => by
      rw [Bool.or_eq_true, decide_eq_true_eq, hm i, pk.mem_iff, List.mem_cons]
      exact Or.comm
    have hz : es1.size = n + 1 := by rw [← Array.length_toList, pc.length_eq, List.length_cons, Array.length_toList, hn]
    have hb1 : es1.size < scanBound := hz ▸ room
    have hled : w.params.followText "set-order" = true ∨ t1.led = true := hl.imp id fun z => l1.trans z
    have fin : ∀ h', Heap.SameBut a s.heap h' → SetT w h' a (fun j => M j || decide (j = k)) es1.size → Q true { s with heap := h' } := fun h' sb r => by
      have q := hQ h' sb
      rw [hM] at q
      rw [hz] at r
      exact q r
    refine wpAny_bind (gw _ ?_)
    split
    · refine wpAny_bind ?_
      rw [hashByValue_scannable 8 sc]
      refine wpAny_pure (setT_tail ?_ ho hex hd g1 nd1 m1 hb1 ?_ ?_ ?_ ?_)
      · intro b z Z q; cases b <;> first | exact wpAny_pure q | exact wpAny_rule q
      · first | (split <;> first | exact f1 | exact SetTable.fits_plain_off f1) | exact f1
      · first | (split <;> exact r1) | exact r1
      · first | (split <;> exact hled) | exact hled
      · intro h' sb r; dsimp only; exact wpAny_pure (fin h' sb r)
    · refine wpAny_bind (wpAny_pure ?_)
      simp only [↓reduceIte]
      refine setT_tail ?_ ho hex hd g1 nd1 m1 hb1 f1 r1 hled ?_
      · intro b z Z q; cases b <;> first | exact wpAny_pure q | exact wpAny_rule q
      · intro h' sb r; dsimp only; exact wpAny_pure (fin h' sb r)
theorem setT_new_at {h : Heap} {ks : List Str} (ho : h.get? a = some { cls := .type "set", dict := none, data := .set #[] 0 (.fresh 0 0 (!w.params.followText "set-order")) }) : SetT w h a (fun j => decide (j ∈ ks.take 0)) 0 :=
  ⟨_, #[], 0, _, ho, ⟨rfl, rfl, rfl⟩, rfl, (fun e he => by simp at he), (by simp), (fun k => by simp), (by decide), (by rfl), rfl, List.Pairwise.nil, by
    show _ ∨ (!w.params.followText "set-order") = true
    cases w.params.followText "set-order"
    · exact .inr rfl
    · exact .inl rfl⟩
theorem setT_loop {I : Addr} {fp wr : List Addr} {G : Array GenState → Array GenState → Prop} {n : Nat} {Pv : Nat → Value → Prop} {St : Nat → Shared → Prop} {R : Result → Shared → Prop}
    (W : WalksS P w A.in1 I fp wr G n Pv St) (Z : Addr) (hZ : Z ∉ fp) (ks : List Str) (hn : n = ks.length) (hb : ks.length + 1 < scanBound) (hval : ∀ i v, Pv i v → ∃ k t, ks[i]? = some k ∧ v = .str k t) :
    ∀ (j i : Nat) (s : Shared), n - i = j → i ≤ n → St i s → (∃ c, c ≤ i ∧ SetT w s.heap Z (fun j => decide (j ∈ ks.take i)) c) →
      (∀ s' c, Moved (Z :: wr) G s s' → c ≤ n → SetT w s'.heap Z (fun j => decide (j ∈ ks)) c → R (.ok (.ret .none)) s') →
      codeAny (model P w) A (.builtin "set.update.loop" ⟨[.ref Z, .ref I], []⟩) R s := by
  have hw : Z ∉ wr := fun h => hZ (W.sub _ h)
  have sub : ∀ b ∈ wr, b ∈ Z :: wr := fun b hb => List.mem_cons_of_mem _ hb
  intro j
  induction j with
  | zero =>
    intro i s hj hi hst ⟨c, hc, hS⟩ hR
    have e : i = n := by omega
    subst e
    refine codeAny_builtin F.entry_set_update_loop ?_
    rw [Around.under_plainId F.plain_set_update_loop _]
    show wpAny _ A.in1 (pyNext (.ref I) >>= _) _ _ s
    refine wpAny_bind (W.done s _ _ hst fun s' hm => (show wpAny _ A.in1 (ret Value.none) _ _ s' from ?_))
    rw [List.take_of_length_le (show ks.length ≤ i by omega)] at hS
    exact wpAny_pure (hR s' c (hm.mono sub) hc (hS.at fun o e => hm.heap Z o hw e))
  | succ j ih =>
    intro i s hj hi hst ⟨c, hc, hS⟩ hR
    have lt : i < n := by omega
    refine codeAny_builtin F.entry_set_update_loop ?_
    rw [Around.under_plainId F.plain_set_update_loop _]
    show wpAny _ A.in1 (pyNext (.ref I) >>= _) _ _ s
    refine wpAny_bind (W.item i s _ _ lt hst fun v s' hP hst' hm => ?_)
    obtain ⟨z, t, hz, rfl⟩ := hval i v hP
    have hS' : SetT w s'.heap Z (fun j => decide (j ∈ ks.take i)) c := hS.at fun o e => hm.heap Z o hw e
    show wpAny _ A.in1 (holding [Value.str z t] (setAdd Z (.str z t)) >>= _) _ _ s'
    unfold setAdd
    refine wpAny_bind (wpAny_holding (wpAny_holding (wpAny_bind ((strKind P w).pyHash (k := z) (strKind_is _ _ _ _) ?_))))
    refine setT_add_hashed (s := { s' with toks := s'.toks + 1 }) hS' (by omega) fun h' sb hS2 => ?_
    have hS3 : SetT w h' Z (fun j => decide (j ∈ ks.take (i + 1))) (if decide (z ∈ ks.take i) = true then c else c + 1) := hS2.congr fun j => by
      rw [List.take_add_one, hz]
      simp [List.mem_append]
    have hc3 : (if decide (z ∈ ks.take i) = true then c else c + 1) ≤ i + 1 := by split <;> omega
    refine wpAny_pure ⟨plainId_quiet F.plain_set_update_loop _, ih (i + 1) _ (by omega) lt (W.frame _ s' _ _ hst' (Nat.le_succ _) fun b hb o e => ?_) ⟨_, hc3, hS3⟩ fun s'' c2 m2 hc2 hS4 => ?_⟩
    · rw [sb.2 b (fun h : b = Z => hZ (by rw [← h]; exact hb))]; exact e
    · refine hR s'' c2 (Moved.trans W.gtrans ((hm.mono sub).then_heap (Nat.le_succ _) fun b o hb e => ?_) m2) hc2 hS4
      rw [sb.2 b (fun h : b = Z => hb (by rw [h]; exact List.mem_cons_self))]; exact e
end
end N
set_option Elab.async false
set_option linter.all false
set_option maxRecDepth 100000
set_option maxHeartbeats 4000000
namespace N
open PySem PySem.Spec PyProof.Rows L2
section
variable {P : Program} {w : World} {A : Around} {E : Value → Shared → Prop} {s : Shared}
abbrev newSetObj (w : World) : Obj := { cls := .type "set", dict := none, data := .set #[] 0 (.fresh 0 0 (!w.params.followText "set-order")) }
theorem set_made (x : Value) {Q : Value → Shared → Prop} (hh : A.handled = none)
    (up : ∀ (A' : Around) (Z : Unit → Shared → Prop), A'.handled = none → (∀ (h' : Heap) (tk : Nat), (∀ b o, s.heap.get? b = some o → h'.get? b = some o) → Q (.ref s.heap.objs.size) { s with heap := h', toks := tk } → Z () { s with heap := h', toks := tk }) →
      wpAny (model P w) A' (Builtin.Frozenset.updateFrom "set.__init__" s.heap.objs.size x) Z E { s with heap := s.heap.push (newSetObj w) }) :
    wpAny (model P w) A (call (.type "set") [x]) Q E s := by
  obtain ⟨c, tl, hmro⟩ := F.called_set.mro
  have hmade := F.called_set.made
  have hsub := F.called_set.sub
  refine wpAny_call (codeAny_of_tree ?_)
  show wpAny _ _ (callAny (.type "set") _) _ _ _
  refine wpAny_pure ⟨Code.quiet_builtin _ (by decide +kernel), codeAny_builtin F.entry_type_call ?_⟩
  rw [Around.under_plain (weight_type_call_type "set" [x] []) rfl]
  have h1 := F.called_set.notType
  have h2 := F.called_set.canCreate
  have hct := F.typeCall_set_1 x
  repeat (any_goals (first | assumption | wp_step))
  refine codeAny_mono (code_set_led1 x (E := E) (Q₁ := fun obj z => obj = .ref s.heap.objs.size ∧ z = { s with heap := s.heap.push (newSetObj w) }) ⟨rfl, rfl⟩) fun r z hr => ?_
  cases r with
  | error e => exact hr
  | ok fl =>
    cases fl with
    | ret obj =>
      obtain ⟨rfl, rfl⟩ := hr
      have hS : (s.heap.push (newSetObj w)).get? s.heap.objs.size = some (newSetObj w) := Heap.get?_push_size _ rfl
      have hT : Shared.TypeIs { s with heap := s.heap.push (newSetObj w) } (.ref s.heap.objs.size) "set" := ⟨_, hS, rfl⟩
      have hli := F.called_set.init.lookup
      have hbi := F.called_set.init.bind (.ref s.heap.objs.size)
      repeat (any_goals (first | assumption | wp_step))
      refine codeAny_mono (codeAny_call_builtin (R := wants (fun r z => r = .none ∧ ∃ h' tk, z = { s with heap := h', toks := tk } ∧ (∀ b o, s.heap.get? b = some o → h'.get? b = some o) ∧ Q (.ref s.heap.objs.size) z) E) F.called_set.init.plain F.entry_set_init (check_set_init_1 hT ?_)) fun r2 z2 hr2 => ?_
      · unfold Builtin.«set.__init__» noKeywords
        generalize hU : Builtin.Frozenset.updateFrom = U
        wp_walk
        subst hU
        refine up _ _ (by first | exact hh | simp [hh]) fun h' tk k q => ?_
        show wpAny _ _ (ret Value.none) _ _ _
        exact wpAny_pure ⟨rfl, h', tk, rfl, k, q⟩
      · cases r2 with
        | error e => exact hr2
        | ok fl2 =>
          cases fl2 with
          | ret r =>
            obtain ⟨rfl, h', tk, rfl, hk', hq⟩ := hr2
            repeat (any_goals (first | assumption | wp_step))
          | _ => exact hr2.elim
    | _ => exact hr.elim
end
end N
set_option Elab.async false
set_option linter.all false
set_option maxRecDepth 100000
set_option maxHeartbeats 4000000
namespace N
open PySem PySem.Spec PyProof.Rows L2
section
variable {P : Program} {w : World} {A : Around} {E : Value → Shared → Prop} {s : Shared}
theorem strsAre_get : ∀ {us : List Value} {xs : List Str}, StrsAre us xs → ∀ (i : Nat) (v : Value), us[i]? = some v → ∃ k t, xs[i]? = some k ∧ v = .str k t
  | _, _, .nil, i, v, h => by simp at h
  | _, _, .cons x t r, 0, v, h => ⟨x, t, rfl, (Option.some.inj h).symm⟩
  | _, _, .cons x t r, i + 1, v, h => strsAre_get r i v h
theorem set_of_strs {l : Addr} {items : Array Value} (ks : List Str) {Q : Value → Shared → Prop} (hh : A.handled = none) (hl : s.heap.IsList l items) (hit : StrsAre items.toList ks) (hb : ks.length + 1 < scanBound)
    (h : ∀ (h' : Heap) (tk c : Nat), SetT w h' s.heap.objs.size (fun j => decide (j ∈ ks)) c → c ≤ ks.length → (∀ b o, s.heap.get? b = some o → h'.get? b = some o) → Q (.ref s.heap.objs.size) { s with heap := h', toks := tk }) :
    wpAny (model P w) A (call (.type "set") [.ref l]) Q E s := by
  have hz : items.size = ks.length := by rw [← Array.length_toList, StrsAre.length hit]
  refine set_made (.ref l) hh fun A' Z hA fin => ?_
  obtain ⟨ol, hol, hcl, nl, hdl⟩ := hl
  obtain ⟨ocls, odict, odata, oslots⟩ := ol
  simp only at hcl hdl
  subst hcl; subst hdl
  have hol2 : (s.heap.push (newSetObj w)).get? l = some { cls := .type "list", dict := odict, data := .seq items nl, slots := oslots } := Heap.get?_push_of_some _ hol
  have hT : Shared.TypeIs { s with heap := s.heap.push (newSetObj w) } (.ref l) "list" := ⟨_, hol2, rfl⟩
  have hl1 : (s.heap.push (newSetObj w)).IsList l items := ⟨_, hol2, rfl, nl, rfl⟩
  have hS : (s.heap.push (newSetObj w)).get? s.heap.objs.size = some (newSetObj w) := Heap.get?_push_size _ rfl
  have q1 := F.sub_list_set
  have q2 := F.sub_list_frozenset
  have q3 : (Value.type "list" == Value.type "dict") = false := by decide
  unfold Builtin.Frozenset.updateFrom
  generalize hPI : pyIter = PI
  wp_walk
  subst hPI
  refine wpAny_pyIter_list hl1 ?_
  refine wpAny_bind (wpAny_runValue ?_)
  have hlS : l < s.heap.objs.size := Heap.lt_size hol
  have hA3 : A'.in1.handled = none := by simp [hA]
  have neI : l ≠ (s.heap.push (newSetObj w)).objs.size := by
    rw [Heap.size_push]; exact Nat.ne_of_lt (Nat.lt_succ_of_lt hlS)
  have nf : s.heap.objs.size ∉ [(s.heap.push (newSetObj w)).objs.size, l] := by
    rw [Heap.size_push]; simp only [List.mem_cons, List.mem_singleton, List.not_mem_nil, or_false, not_or]
    exact ⟨Nat.ne_of_lt (Nat.lt_succ_self _), Nat.ne_of_gt hlS⟩
  have hval : ∀ (i : Nat) (v : Value), items[i]? = some v → ∃ k t, ks[i]? = some k ∧ v = .str k t := fun i v hv => strsAre_get hit i v (by rw [Array.getElem?_toList]; exact hv)
  refine setT_loop ((Walks.list hA3 _ l neI items).toS) s.heap.objs.size nf ks hz hb hval (items.size - 0) 0 _ (by omega) (Nat.zero_le _)
    ⟨⟨_, Heap.get?_push_size _ rfl, rfl, rfl⟩, (hl1.push _)⟩ ⟨0, Nat.le_refl 0, setT_new_at (Heap.get?_push_of_some _ hS)⟩ fun s' c hm hc hM => ?_
  obtain ⟨h', g2, d', tk', os'⟩ := s'
  have eg : g2 = s.gens := hm.gens
  have ed : d' = s.drawn := hm.drawn
  have eo : os' = s.os := hm.os
  subst eg; subst ed; subst eo
  show wpAny _ _ _ _ _ _
  have k : ∀ b o, s.heap.get? b = some o → h'.get? b = some o := fun b o e => by
    have hb0 : b < s.heap.objs.size := Heap.lt_size e
    refine hm.heap b o ?_ (Heap.get?_push_of_some _ (Heap.get?_push_of_some _ e))
    rw [Heap.size_push]
    simp only [List.mem_cons, List.mem_singleton, List.not_mem_nil, or_false, not_or]
    exact ⟨Nat.ne_of_lt hb0, Nat.ne_of_lt (Nat.lt_succ_of_lt hb0)⟩
  exact wpAny_pure (fin h' tk' k (h h' tk' c hM (hz ▸ hc) k))
def signs (x : Str) : List Str := x.cps.toList.map fun c => ⟨#[c]⟩
theorem set_of_text {x : Str} {t : Tok} {Q : Value → Shared → Prop} (hh : A.handled = none) (hb : x.length + 1 < scanBound)
    (h : ∀ (h' : Heap) (tk c : Nat), SetT w h' s.heap.objs.size (fun j => decide (j ∈ signs x)) c → c ≤ x.length → (∀ b o, s.heap.get? b = some o → h'.get? b = some o) → Q (.ref s.heap.objs.size) { s with heap := h', toks := tk }) :
    wpAny (model P w) A (call (.type "set") [.str x t]) Q E s := by
  have hz : x.cps.size = (signs x).length := by unfold signs; rw [List.length_map, Array.length_toList]
  refine set_made (.str x t) hh fun A' Z hA fin => ?_
  have hS : (s.heap.push (newSetObj w)).get? s.heap.objs.size = some (newSetObj w) := Heap.get?_push_size _ rfl
  have q1 := F.sub_str_set
  have q2 := F.sub_str_frozenset
  have q3 : (Value.type "str" == Value.type "dict") = false := by decide
  unfold Builtin.Frozenset.updateFrom
  generalize hPI : pyIter = PI
  wp_walk
  subst hPI
  refine wpAny_pyIter_str fun o St W hst => ?_
  refine wpAny_bind (wpAny_runValue ?_)
  have hA3 : A'.in1.handled = none := by simp [hA]
  have nf : s.heap.objs.size ∉ [(s.heap.push (newSetObj w)).objs.size] := by
    rw [Heap.size_push]; simp only [List.mem_singleton]
    exact Nat.ne_of_lt (Nat.lt_succ_self _)
  have hval : ∀ (i : Nat) (v : Value), SignAt x i v → ∃ k t, (signs x)[i]? = some k ∧ v = .str k t := fun i v ⟨c, u, hc, e⟩ => by
    refine ⟨⟨#[c]⟩, u, ?_, e⟩
    unfold signs
    rw [List.getElem?_map, Array.getElem?_toList, hc]
    rfl
  refine setT_loop ((W A'.in1 hA3).toS) s.heap.objs.size nf (signs x) hz (by rw [← hz]; exact hb) hval (x.cps.size - 0) 0 _ (by omega) (Nat.zero_le _)
    hst ⟨0, Nat.le_refl 0, setT_new_at (Heap.get?_push_of_some _ hS)⟩ fun s' c hm hc hM => ?_
  obtain ⟨h', g2, d', tk', os'⟩ := s'
  have eg : g2 = s.gens := hm.gens
  have ed : d' = s.drawn := hm.drawn
  have eo : os' = s.os := hm.os
  subst eg; subst ed; subst eo
  show wpAny _ _ _ _ _ _
  have k : ∀ b o, s.heap.get? b = some o → h'.get? b = some o := fun b o e => by
    have hb0 : b < s.heap.objs.size := Heap.lt_size e
    refine hm.heap b o ?_ (Heap.get?_push_of_some _ (Heap.get?_push_of_some _ e))
    rw [Heap.size_push]
    simp only [List.mem_cons, List.mem_singleton, List.not_mem_nil, or_false, not_or]
    exact ⟨Nat.ne_of_lt hb0, Nat.ne_of_lt (Nat.lt_succ_of_lt hb0)⟩
  exact wpAny_pure (fin h' tk' k (h h' tk' c hM hc k))
theorem sorted_setT {a : Addr} {M : Str → Bool} {n : Nat} {Q : Value → Shared → Prop} (R : SetT w s.heap a M n) (hh : A.handled = none)
    (hQ : ∀ s' p (out : Array Value) (c : Nat) (ks : List Str), (∀ b o, s.heap.get? b = some o → s'.heap.get? b = some o) → s'.gens = s.gens → s'.os = s.os → s.heap.objs.size ≤ p →
      s'.heap.get? p = some (seqObj "list" out c) → StrsAre out.toList ks → sortedS ks = true → ks.Nodup → (∀ k, k ∈ ks ↔ M k = true) → ks.length = n → Q (.ref p) s') :
    wpAny (model P w) A (call (.builtin "sorted") [.ref a]) Q E s := by
  obtain ⟨o, es, ep, t, ho, hex, hd, g, nd, hm, hb, hf, hn, hr, hl⟩ := R
  refine Calls.call_function_entry kind_sorted plain_sorted entry_sorted (args_sorted1 _) ?_
  unfold Builtin.«sorted»
  refine wpAny_bind (m := checkCount "sorted" 1 1 _) (wpAny_pure (wpAny_bind (collect_set (A := A.in1) hh ⟨o, ho, hex.1, hd⟩ hf hb hr hl fun s1 vs k1 hz g1 o1 pm => ?_)))
  have hvl : vs.length = n := by rw [pm.length_eq, List.length_map, Array.length_toList]; exact hn
  have hI : StrsAre vs (vs.map strOf) := strsAre_map vs fun v hv => by
    obtain ⟨e, he, q⟩ := List.mem_map.mp (pm.mem_iff.mp hv)
    obtain ⟨k, tk, h1, _⟩ := g e he
    exact ⟨k, tk, by rw [← q]; exact h1⟩
  have pk : (vs.map strOf).Perm (es.toList.map txOf) := by
    have q := pm.map strOf
    rw [List.map_map] at q
    exact q
  have hs : vs.length ≤ sizeLine := by
    have : scanBound = 4096 := rfl
    rw [sizeLine_eq, hvl, ← hn]
    omega
  refine wpAny_bind (wpAny_newList ?_ hs)
  have hoL : (s1.heap.push (seqObj "list" vs.toArray 0)).get? s1.heap.objs.size = some (seqObj "list" vs.toArray 0) := Heap.get?_push_size _ rfl
  refine wpAny_bind (wpAny_holding (wpAny_call_entry slot_list_sort ⟨_, hoL, rfl⟩ entry_list_sort (list_sort_treeKAny strKind_oneLt hoL hI.keysOf (fun v₁ v₂ rest e => keyKind_strs (by rw [← e]; exact hI)) hs fun st' hp ht => ⟨_, rfl, ?_⟩) (args_list_sort _)))
  obtain ⟨ss, h1, h2, h3⟩ := sorted_out_str hI hp ht
  obtain ⟨c, hc⟩ := sortedHeap_at (vs := vs) (out := (arrOf st').map (·.2)) hoL
  have pn : ss.Perm (es.toList.map txOf) := h2.trans pk
  refine wpAny_pure ⟨_, rfl, hQ _ s1.heap.objs.size _ c ss (fun b u e => ?_) g1 o1 hz hc h1 h3 (pn.nodup_iff.mpr nd) (fun k => by rw [pn.mem_iff, ← hm k]) ?_⟩
  · have q := k1 b u e
    have hlt := Heap.lt_size q
    show (sortedHeap (s1.heap.push (seqObj "list" vs.toArray 0)) s1.heap.objs.size vs _).get? b = some u
    rw [sortedHeap_old (Nat.ne_of_lt hlt) (by rw [size_push']; exact Nat.lt_succ_of_lt hlt)]
    exact Heap.get?_push_of_some _ q
  · rw [pn.length_eq, List.length_map, Array.length_toList]; exact hn
end
end N
set_option Elab.async false
set_option linter.all false
set_option maxRecDepth 100000
set_option maxHeartbeats 4000000
namespace N
open PySem PySem.Spec PyProof.Rows L2
def SetTO (w : World) (a : Addr) (M : Str → Bool) (n : Nat) : HO := .ext fun h => SetT w h a M n
theorem setTO_new {w : World} {P : Program} {H : Hp} {h : Heap} {a : Addr} {M : Str → Bool} {n : Nat} (R : SetT w h a M n) : ObjOk P w H h a (SetTO w a M n) :=
  ⟨R, (let ⟨o, _, _, _, ho, _⟩ := R; ⟨o, ho⟩), fun h1 h2 p k => SetT.at p k⟩
theorem setTO_get {X : Cx} {pins : List (Addr × Obj)} {σ : L2.St} {H : Hp} {s : Shared} {a : Addr} {M : Str → Bool} {n : Nat} (I : Inv X pins σ H s) (ha : H a = some (SetTO X.w a M n)) : SetT X.w s.heap a M n := (I.hok a _ ha).1
def rSetT (K : PySem.W.Frag) (w : World) : List V → Hp → VK → Prop := fun xs H Q => ∃ (v : V) (ks : List Str), xs = [v] ∧ ((∃ l, v = .ref l ∧ SqL K H l (ks.map V.str)) ∨ ∃ x, v = .str x ∧ ks = signs x) ∧ ks.length + 1 < 4096 ∧
  ∀ a c, c ≤ ks.length → H a = none → Q (.ref a) (upd H a (SetTO w a (fun j => decide (j ∈ ks)) c))
theorem cr_setT {X : Cx} (hc : X.calm = true) : CallR X (.type "set") (rSetT X.K X.w) := by
  intro pins s σ H xs us Q I r h
  obtain ⟨v, ks, rfl, hv, hz, q⟩ := h
  have hn : H s.heap.objs.size = none := I.hok.fresh (Nat.le_refl _)
  have fin : ∀ (h' : Heap) (tk c : Nat), SetT X.w h' s.heap.objs.size (fun j => decide (j ∈ ks)) c → c ≤ ks.length → (∀ b o, s.heap.get? b = some o → h'.get? b = some o) → EP X pins σ Q (.ref s.heap.objs.size) { s with heap := h', toks := tk } := fun h' tk c R hc' k =>
    ⟨.ref s.heap.objs.size, upd H s.heap.objs.size (SetTO X.w s.heap.objs.size (fun j => decide (j ∈ ks)) c), I.laid (t' := tk) k (Nat.le_refl _) (setTO_new R), rfl, q _ c hc' hn⟩
  rcases hv with ⟨l, rfl, hl⟩ | ⟨x, rfl, rfl⟩
  · rw [Vals.ref1 r]
    obtain ⟨its, rv, pl, hlen⟩ := I.list hl
    exact set_of_strs (P := X.prog) (w := X.w) ks (I.ok.hd hc) pl.isList (by simpa using rv.strs) hz fin
  · obtain ⟨u, rfl, rx⟩ := vals1 r
    obtain ⟨t, rfl⟩ := rx
    have e : (signs x).length = x.length := by unfold signs; rw [List.length_map, ← str_len]
    rw [e] at hz fin
    exact set_of_text (P := X.prog) (w := X.w) (I.ok.hd hc) hz fin
def rSortedT (w : World) : List V → Hp → VK → Prop := fun xs H Q => ∃ (a : Addr) (M : Str → Bool) (n : Nat), xs = [.ref a] ∧ H a = some (SetTO w a M n) ∧ n ≤ 5000 ∧
  ∀ (ks : List Str) (p : Addr), sortedS ks = true → ks.Nodup → (∀ k, k ∈ ks ↔ M k = true) → ks.length = n → H p = none → Q (.ref p) (upd H p (.lst (ks.map V.str)))
theorem cr_sortedT {X : Cx} (hc : X.calm = true) : CallR X (.builtin "sorted") (rSortedT X.w) := by
  intro pins s σ H vs us Q I r h
  obtain ⟨a, M, n, rfl, ha, hn, q⟩ := h
  have R := setTO_get I ha
  rw [Vals.ref1 r]
  refine sorted_setT R (I.ok.hd hc) fun s' p out c ks k g o hp hg hi hs hd hm hl => ?_
  have hlen : (ks.map V.str).length ≤ sizeLine := by rw [List.length_map, hl, sizeLine_eq]; omega
  have hf : H p = none := I.hok.fresh hp
  have J : Inv X pins σ (upd H p (.lst (ks.map V.str))) { s with heap := s'.heap, gens := s'.gens, drawn := s'.drawn, toks := s'.toks } :=
    I.call (ch := []) (Un.laid k hp hf) (I.hok.laid k hp ⟨hlen, out.toList, c, vals_of_strs hi, hg⟩) (by rw [g]; exact I.bare) (fun _ z => nomatch z)
  have e : s' = { s with heap := s'.heap, gens := s'.gens, drawn := s'.drawn, toks := s'.toks } := by
    cases s'
    cases s
    cases o
    rfl
  rw [e]
  exact ⟨.ref p, _, J, rfl, q ks p hs hd hm hl hf⟩
def insS (k : Str) : List Str → List Str
  | [] => [k]
  | m :: r => if k = m then m :: r else if ltS k m then k :: m :: r else m :: insS k r
def ascS (l : List Str) : List Str := l.foldr insS []
theorem mem_insS {k x : Str} : ∀ {l : List Str}, x ∈ insS k l ↔ x = k ∨ x ∈ l
  | [] => by simp [insS]
  | m :: r => by
    unfold insS
    split
    · rename_i e
      subst e
      simp
    · split
      · simp
      · rw [List.mem_cons, mem_insS, List.mem_cons]
        constructor
        · rintro (h | h | h)
          · exact .inr (.inl h)
          · exact .inl h
          · exact .inr (.inr h)
        · rintro (h | h | h)
          · exact .inr (.inl h)
          · exact .inl h
          · exact .inr (.inr h)
theorem mem_ascS {x : Str} : ∀ {l : List Str}, x ∈ ascS l ↔ x ∈ l
  | [] => by simp [ascS]
  | k :: l => by
    show x ∈ insS k (ascS l) ↔ _
    rw [mem_insS, mem_ascS, List.mem_cons]
def AscS (l : List Str) : Prop := l.Pairwise fun a b => ltS a b = true
theorem asc_insS {k : Str} : ∀ {l : List Str}, AscS l → AscS (insS k l)
  | [], _ => by simp [insS, AscS]
  | m :: r, h => by
    obtain ⟨h1, h2⟩ := List.pairwise_cons.mp h
    unfold insS
    split
    · exact h
    · rename_i ne
      split
      · rename_i lt
        refine List.pairwise_cons.mpr ⟨fun y hy => ?_, h⟩
        rcases List.mem_cons.mp hy with e | e
        · rw [e]
          exact lt
        · exact ltS_trans lt (h1 y e)
      · rename_i nl
        refine List.pairwise_cons.mpr ⟨fun y hy => ?_, asc_insS h2⟩
        rcases mem_insS.mp hy with e | e
        · rw [e]
          exact ltS_of (by simpa using nl) (fun q => ne q.symm)
        · exact h1 y e
theorem asc_ascS : ∀ l : List Str, AscS (ascS l)
  | [] => List.Pairwise.nil
  | k :: l => asc_insS (asc_ascS l)
theorem ascS_ext {l m : List Str} (h : AscS l) (k : AscS m) (e : ∀ x, x ∈ l ↔ x ∈ m) : l = m := asc_ext (lt := fun a b => ltS a b = true) (fun a => by rw [ltS_irrefl]; exact Bool.false_ne_true) (fun _ _ _ a b => ltS_trans a b) h k e
theorem ascS_of {l m : List Str} (h : AscS l) (e : ∀ x, x ∈ l ↔ x ∈ m) : l = ascS m := ascS_ext h (asc_ascS m) fun x => by rw [e, mem_ascS]
theorem ascS_sorted {l m : List Str} (hs : sortedS l = true) (nd : l.Nodup) (e : ∀ x, x ∈ l ↔ x ∈ m) : l = ascS m := ascS_of (sorted_all hs nd) e
theorem ascS_len (l : List Str) : (ascS l).length ≤ l.length := by
  have ins : ∀ (k : Str) (m : List Str), (insS k m).length ≤ m.length + 1 := fun k m => by
    induction m with
    | nil => simp [insS]
    | cons x r ih =>
      unfold insS
      split
      · simp
      · split
        · simp
        · simp only [List.length_cons]
          omega
  induction l with
  | nil => simp [ascS]
  | cons k l ih =>
    have := ins k (ascS l)
    show (insS k (ascS l)).length ≤ l.length + 1
    omega
section
variable {F : FmKit} {T : Kx} {C H H' O O' : Hp} {G : Gm} {W W' : Om} {R : D → Om → Prop} {d : D} {w : World} {te to : TE}
theorem den_strs (ks : List Str) : DenL F T H (ks.map D.str) (ks.map V.str) := by
  have := DenL.vls (F := F) (T := T) (H := H) (ks.map V.str)
  rw [List.map_map] at this
  exact this
theorem den_strs_inv {ks : List Str} {xs : List V} (kl : DenL F T H (ks.map D.str) xs) : xs = ks.map V.str := by
  rw [show ks.map D.str = (ks.map V.str).map D.vl by rw [List.map_map]; rfl] at kl
  exact DenL.vls_inv kl
theorem ca_setT {ks : List Str} (hv : Vl W d (ks.map D.str) ∨ ∃ x, d = .str x ∧ ks = signs x) (hz : ks.length < 4000) (r : ∀ p c, p ∉ akeys W → c ≤ ks.length → R (.adr p) ((p, .any (SetTO w p (fun j => decide (j ∈ ks)) c)) :: W)) : Ca F T (rSetT T.K w) [d] W R := ca_one fun C H O di oc ow x k Q q => by
  refine ⟨x, ks, rfl, ?_, by omega, fun p c hc hp => ?_⟩
  · rcases hv with hv | ⟨z, rfl, rfl⟩
    · obtain ⟨a, xs, e, hs, kl⟩ := hv.sq ow di k
      rw [den_strs_inv kl] at hs
      exact .inl ⟨a, e, hs⟩
    · exact .inr ⟨z, k, rfl⟩
  · obtain ⟨n2, e2, np⟩ := (Nx.refl (F := F) (T := T) di oc ow).newO (od := .any (SetTO w p (fun j => decide (j ∈ ks)) c)) (o := SetTO w p (fun j => decide (j ∈ ks)) c) hp rfl
    rw [e2]
    exact q _ _ H _ _ (r p c np hc) n2 rfl
theorem ca_sortedT {p : Addr} {ks : List Str} {c : Nat} (hn : c ≤ 5000) (r : R (.lst ((ascS ks).map D.str)) W) : Ca F T (rSortedT w) [.adr p] ((p, .any (SetTO w p (fun j => decide (j ∈ ks)) c)) :: W) R := ca_one fun C H O di oc ow x k Q q => by
  have k : x = .ref p := k
  have h1 : O p = some (SetTO w p (fun j => decide (j ∈ ks)) c) := (ow.at_ p _ List.mem_cons_self).2
  refine ⟨p, _, c, by rw [k], ov_own h1, hn, fun ys p2 hs nd hm hl hp2 => ?_⟩
  obtain ⟨n2, e2, s2⟩ := (Nx.refl (F := F) (T := T) di oc ow).newF (o := .lst (ys.map V.str)) hp2
  rw [e2]
  have e : ys = ascS ks := ascS_sorted hs nd fun x => by rw [hm]; simp
  refine q _ W _ _ _ r ⟨n2.ext, n2.dis, n2.oc, n2.own.tail⟩ ?_
  rw [e]
  exact ⟨p2, (ascS ks).map V.str, rfl, by rw [← e]; exact upd_same, den_strs _⟩
/-- sep.join(texts) -/
theorem ev_join (h : Ev F T to G W fun d W1 => ∃ a : Str, d = .str a ∧ Ev F T te G W1 fun d2 W2 => ∃ ys : List Str, Vs W2 d2 (ys.map D.str) ∧ (ys.map (·.length)).sum + ys.length * a.length ≤ 16777216 ∧ R (.str (Txt.join a ys)) W2) :
    Ev F T (tM1 (fun x xs H Q => ∃ a p, ∃ ys : List Str, x = .str a ∧ xs = [.ref p] ∧ (SqL T.K H p (ys.map V.str) ∨ SqT T.K H p (ys.map V.str)) ∧ (ys.map (·.length)).sum + ys.length * a.length ≤ 16777216 ∧ Q (.str (Txt.join a ys)) H) to te) G W R := fun C H O σ w Q q =>
  h C H O σ w _ fun d W1 H1 O1 x ⟨a, e, h1⟩ n1 k1 => by
    subst e
    have k1 : x = .str a := k1
    refine ⟨⟨a, k1⟩, h1 C H1 O1 σ (w.step n1) _ fun d2 W2 H2 O2 y ⟨ys, hv, hz, r⟩ n2 k2 => ?_⟩
    obtain ⟨p, xs, e, hs, kl⟩ := hv.sq n2.own n2.dis k2
    rw [den_strs_inv kl] at hs
    exact ⟨a, p, ys, k1, by rw [e], hs, hz, q _ W2 H2 O2 _ r (n1.trans n2) rfl⟩
end
theorem ltS_sign (a b : Nat) : ltS ⟨#[a]⟩ ⟨#[b]⟩ = decide (a < b) := by simp [ltS, ltCps]
def sg (c : Nat) : Str := ⟨#[c]⟩
theorem sg_inj {a b : Nat} (h : sg a = sg b) : a = b := by
  have : [a] = [b] := congrArg (fun z : Str => z.cps.toList) h
  exact (List.cons.inj this).1
theorem insS_sg (c : Nat) : ∀ l : List Nat, insS (sg c) (l.map sg) = (insN c l).map sg
  | [] => rfl
  | m :: r => by
    rw [List.map_cons, insS, insN]
    by_cases e : c = m
    · subst e
      rw [if_pos rfl, if_pos rfl]
      rfl
    · rw [if_neg (fun h => e (sg_inj h)), if_neg e]
      by_cases lt : c < m
      · rw [if_pos (by rw [show ltS (sg c) (sg m) = decide (c < m) from ltS_sign c m]; simpa using lt), if_pos lt]
        rfl
      · rw [if_neg (by rw [show ltS (sg c) (sg m) = decide (c < m) from ltS_sign c m]; simpa using lt), if_neg lt, insS_sg c r]
        rfl
theorem ascS_sg : ∀ l : List Nat, ascS (l.map sg) = (l.foldr insN []).map sg
  | [] => rfl
  | c :: l => by
    show insS (sg c) (ascS (l.map sg)) = _
    rw [ascS_sg l, insS_sg]
    rfl
theorem join_nil_sg : ∀ l : List Nat, Txt.join "" (l.map sg) = ⟨l.toArray⟩ := fun l => by
  rw [show Txt.join "" (l.map sg) = Str.join "" (l.map sg) from PySem.StrLaws.glued_eq_join _ _]
  induction l with
  | nil => rfl
  | cons a l ih =>
    cases l with
    | nil => rfl
    | cons b r =>
      show (sg a ++ ("" : Str) ++ Str.join "" ((b :: r).map sg)) = _
      rw [ih]
      refine str_ext ?_
      rw [str_app, str_app]
      rfl
theorem insN_mem {c x : Nat} : ∀ {l : List Nat}, x ∈ insN c l ↔ x = c ∨ x ∈ l
  | [] => by simp [insN]
  | m :: r => by
    unfold insN
    split
    · rename_i e
      subst e
      simp
    · split
      · simp
      · rw [List.mem_cons, insN_mem, List.mem_cons]
        constructor
        · rintro (h | h | h)
          · exact .inr (.inl h)
          · exact .inl h
          · exact .inr (.inr h)
        · rintro (h | h | h)
          · exact .inr (.inl h)
          · exact .inl h
          · exact .inr (.inr h)
def ascN (l : List Nat) : List Nat := l.foldr insN []
theorem mem_ascN {x : Nat} : ∀ {l : List Nat}, x ∈ ascN l ↔ x ∈ l
  | [] => by simp [ascN]
  | k :: l => by
    show x ∈ insN k (ascN l) ↔ _
    rw [insN_mem, mem_ascN, List.mem_cons]
theorem asc_insN {k : Nat} : ∀ {l : List Nat}, l.Pairwise (· < ·) → (insN k l).Pairwise (· < ·)
  | [], _ => by simp [insN]
  | m :: r, h => by
    obtain ⟨h1, h2⟩ := List.pairwise_cons.mp h
    unfold insN
    split
    · exact h
    · rename_i ne
      split
      · rename_i lt
        refine List.pairwise_cons.mpr ⟨fun y hy => ?_, h⟩
        rcases List.mem_cons.mp hy with e | e
        · rw [e]
          exact lt
        · exact Nat.lt_trans lt (h1 y e)
      · rename_i nl
        refine List.pairwise_cons.mpr ⟨fun y hy => ?_, asc_insN h2⟩
        rcases insN_mem.mp hy with e | e
        · rw [e]
          omega
        · exact h1 y e
theorem asc_ascN : ∀ l : List Nat, (ascN l).Pairwise (· < ·)
  | [] => List.Pairwise.nil
  | k :: l => asc_insN (asc_ascN l)
theorem ascN_ext {l m : List Nat} (h : l.Pairwise (· < ·)) (k : m.Pairwise (· < ·)) (e : ∀ x, x ∈ l ↔ x ∈ m) : l = m := asc_ext (fun a => Nat.lt_irrefl a) (fun _ _ _ a b => Nat.lt_trans a b) h k e
/-- the letters of a text -/
abbrev lets (x : Str) : List Nat := x.cps.toList
theorem unite_asc {x y : Str} (hx : (lets x).Pairwise (· < ·)) : (lets (unite x y)).Pairwise (· < ·) := by
  unfold unite
  split
  · exact hx
  · exact asc_ascN _
theorem mem_unite {x y : Str} {c : Nat} : c ∈ lets (unite x y) ↔ c ∈ lets x ∨ c ∈ lets y := by
  unfold unite
  split
  · rename_i e
    subst e
    exact ⟨.inl, fun h => h.elim id id⟩
  · show c ∈ ascN (lets x ++ lets y) ↔ _
    rw [mem_ascN, List.mem_append]
end N
set_option Elab.async false
set_option linter.all false
set_option maxRecDepth 100000
namespace N
open PySem PySem.Spec PyProof.Rows L2
open C8 (InsC)
/-- the class Formula as the top has made it -/
structure CZ (K : PySem.W.Frag) (C : Addr) (ns : List Str) : Prop where
  cls : Cls K C
  nos : ∀ n ∈ ns, NoAttr K C n
  ins : InsC K C
  sf : PySem.W.selfFirst K C = true
  ist : PySem.W.kitOne K (.type "str") (.ref C) = some false
abbrev FZ (K : PySem.W.Frag) (C : Addr) : Prop := CZ K C fmNames
inductive FldF : Str → Fm → D → Prop
  | kind (f : Fm) : FldF "kind" f (.str f.kind)
  | parts (f : Fm) : FldF "parts" f (.tup (partsD f))
  | many (f : Fm) : FldF "many" f (.int (f.many : Nat))
  | deep (f : Fm) : FldF "deepest" f (.int (f.deep : Nat))
  | atoms (f : Fm) : FldF "atoms" f (.str f.atoms)
  | bare (f : Fm) : FldF "bare" f (.str f.outer)
  | spell (f : Fm) : FldF "spelled" f (.str f.spell)
  | alls (f : Fm) : FldF "alls_known" f (.tup (f.alls.map .fm))
theorem FldF.look {n : Str} {f : Fm} {z : D} (h : FldF n f z) : n ∈ fmNames ∧ (fmNames.zip (fmVals FK f)).lookup n = some z := by
  cases h <;> exact ⟨by decide +kernel, rfl⟩
section
variable {T : Kx} {C H H' O O' : Hp} {G : Gm} {W W' : Om} {σ : L2.St} {a p : Addr} {d : D} {l : List D} {ta : TE} {R : D → Om → Prop}
theorem ev_fmF {n : Str} (zf : FZ T.K (T.cl 0)) (h : Ev FK T ta G W fun d W1 => ∃ f z, d = .fm f ∧ FldF n f z ∧ R z W1) : Ev FK T (tFld T.K ta n) G W R :=
  ev_fld (h.imp fun d W1 ⟨f, z, e, k, r⟩ => by
    subst e
    exact ⟨0, fmNames, fmVals FK f, z, .fm f, zf.cls, zf.nos n k.look.1, k.look.2, r⟩)
/-- something with a text -/
def Spl (W : Om) (d : D) (g : Fm) : Prop := ∃ ns l, Inst FK W d 0 ns l ∧ (ns.zip l).lookup ("spelled" : Str) = some (.str g.spell)
theorem spl_fm (f : Fm) : Spl W (.fm f) f := ⟨_, _, .fm f, (FldF.spell f).look.2⟩
theorem Spl.up {W2 : Om} {g : Fm} (h : Spl W d g) (s : ∀ x ∈ W, x ∈ W2) : Spl W2 d g := by
  obtain ⟨ns, l, i, e⟩ := h
  refine ⟨ns, l, ?_, e⟩
  cases i with
  | fm f => exact .fm f
  | obj c ns l => exact .obj _ _ _
  | own a c ns l m => exact .own _ _ _ _ (s _ m)
theorem ev_spl {g : Fm} (zf : FZ T.K (T.cl 0)) (h : Ev FK T ta G W fun d W1 => Spl W1 d g ∧ R (.str g.spell) W1) : Ev FK T (tFld T.K ta "spelled") G W R :=
  ev_fld (h.imp fun d W1 ⟨⟨ns, l, i, e⟩, r⟩ => ⟨0, ns, l, _, i, zf.cls, zf.nos "spelled" (by decide +kernel), e, r⟩)
end
namespace Fm
theorem nodup_asc {l : List Fm} (h : asc l) : l.Nodup := h.imp fun {a b} k e => by
  subst e
  exact ltF_irrefl _ k
theorem len_le {l m : List Fm} (h : l.Nodup) (s : ∀ x ∈ l, x ∈ m) : l.length ≤ m.length := by
  induction l generalizing m with
  | nil => exact Nat.zero_le _
  | cons a l ih =>
    rw [List.nodup_cons] at h
    obtain ⟨p, q, e⟩ := List.append_of_mem (s a List.mem_cons_self)
    subst e
    have := ih (m := p ++ q) h.2 fun x hx => by
      have h1 := s x (List.mem_cons_of_mem _ hx)
      rw [List.mem_append, List.mem_cons] at h1
      rw [List.mem_append]
      rcases h1 with h1 | h1 | h1
      · exact .inl h1
      · subst h1
        exact absurd hx h.1
      · exact .inr h1
    simp at this ⊢
    omega
theorem asc_len {l : List Nat} {lo n : Nat} (h : l.Pairwise (· < ·)) (b : ∀ x ∈ l, lo ≤ x ∧ x < lo + n) : l.length ≤ n := by
  have nd : l.Nodup := h.imp fun q e => by omega
  have key : ∀ (l m : List Nat), l.Nodup → (∀ x ∈ l, x ∈ m) → l.length ≤ m.length := fun l => by
    induction l with
    | nil => intros; exact Nat.zero_le _
    | cons a l ih =>
      intro m h s
      rw [List.nodup_cons] at h
      obtain ⟨p, q, e⟩ := List.append_of_mem (s a List.mem_cons_self)
      subst e
      have := ih (p ++ q) h.2 fun x hx => by
        have h1 := s x (List.mem_cons_of_mem _ hx)
        rw [List.mem_append, List.mem_cons] at h1
        rw [List.mem_append]
        rcases h1 with h1 | h1 | h1
        · exact .inl h1
        · subst h1
          exact absurd hx h.1
        · exact .inr h1
      simp at this ⊢
      omega
  have := key l (List.range' lo n) nd fun x hx => by
    rw [List.mem_range'_1]
    exact b x hx
  simpa using this
theorem atoms_asc : ∀ f : Fm, (lets f.atoms).Pairwise (· < ·)
  | .at c => List.pairwise_singleton _ _
  | .no => List.Pairwise.nil
  | .imp a b => unite_asc (atoms_asc a)
  | .all a => atoms_asc a
theorem outer_asc : ∀ f : Fm, (lets f.outer).Pairwise (· < ·)
  | .at c => List.pairwise_singleton _ _
  | .no => List.Pairwise.nil
  | .imp a b => unite_asc (outer_asc a)
  | .all a => List.Pairwise.nil
theorem atoms_lets : ∀ {f : Fm}, f.okL → ∀ c ∈ lets f.atoms, (65 ≤ c ∧ c ≤ 90) ∨ (97 ≤ c ∧ c ≤ 122)
  | .at d, h, c, hc => by
    have : c = d := List.mem_singleton.mp hc
    subst this
    exact h
  | .no, _, c, hc => by cases hc
  | .imp a b, h, c, hc => (mem_unite.mp hc).elim (atoms_lets h.1 c) (atoms_lets h.2 c)
  | .all a, h, c, hc => atoms_lets (f := a) h c hc
theorem outer_sub : ∀ {f : Fm}, ∀ c ∈ lets f.outer, c ∈ lets f.atoms
  | .at d, c, hc => hc
  | .no, c, hc => hc
  | .imp a b, c, hc => mem_unite.mpr ((mem_unite.mp hc).imp (outer_sub c) (outer_sub c))
  | .all a, c, hc => by cases hc
theorem atoms_len {f : Fm} (h : f.okL) : f.atoms.length ≤ 58 := by
  rw [str_len]
  exact asc_len (atoms_asc f) (lo := 65) fun x hx => by
    have := atoms_lets h x hx
    omega
theorem outer_len {f : Fm} (h : f.okL) : f.outer.length ≤ 58 := by
  rw [str_len]
  exact asc_len (outer_asc f) (lo := 65) fun x hx => by
    have := atoms_lets h x (outer_sub x hx)
    omega
/-- small enough for the walk -/
structure okF (f : Fm) : Prop where
  ok : f.okL
  sz : f.sz ≤ 1000000
  alls : f.alls.length < 64
theorem okF.l {a b : Fm} (h : okF (.imp a b)) : okF a := ⟨h.ok.1, by have := h.sz; unfold Fm.sz at this; omega, Nat.lt_of_le_of_lt (len_le (nodup_asc (alls_sub h.ok.1).2) fun x hx => mem_merge.mpr (.inl hx)) h.alls⟩
theorem okF.r {a b : Fm} (h : okF (.imp a b)) : okF b := ⟨h.ok.2, by have := h.sz; unfold Fm.sz at this; omega, Nat.lt_of_le_of_lt (len_le (nodup_asc (alls_sub h.ok.2).2) fun x hx => mem_merge.mpr (.inr hx)) h.alls⟩
theorem okF.a {a : Fm} (h : okF (.all a)) : okF a := ⟨h.ok, by have := h.sz; unfold Fm.sz at this; omega, Nat.lt_of_le_of_lt (len_le (nodup_asc (alls_sub (f := a) h.ok).2) fun x hx => mem_merge.mpr (.inl hx)) h.alls⟩
end Fm
theorem kind_at {f : Fm} : f.kind = ("atom" : Str) ↔ ∃ c, f = .at c := by
  cases f with
  | «at» c => exact ⟨fun _ => ⟨c, rfl⟩, fun _ => rfl⟩
  | no => exact ⟨fun h => absurd h (by decide +kernel), fun ⟨c, h⟩ => by cases h⟩
  | imp a b => exact ⟨fun h => absurd (show ("if" : Str) = "atom" from h) (by decide +kernel), fun ⟨c, h⟩ => by cases h⟩
  | all a => exact ⟨fun h => absurd (show ("all" : Str) = "atom" from h) (by decide +kernel), fun ⟨c, h⟩ => by cases h⟩
theorem parts_fm : ∀ {f : Fm}, (∀ c, f ≠ .at c) → ∀ d ∈ partsD f, ∃ g, d = .fm g
  | .at c, h, _, _ => absurd rfl (h c)
  | .no, _, d, h => by simp [partsD] at h
  | .imp a b, _, d, h => by
    simp [partsD] at h
    rcases h with h | h
    · exact ⟨a, h⟩
    · exact ⟨b, h⟩
  | .all a, _, d, h => by
    simp [partsD] at h
    exact ⟨a, h⟩
section
variable {T : Kx} {x : Addr} {n : Str} {z : D} {ns : List Str} {l : List D} {R : Om → Prop}
theorem rcv_new (zf : FZ T.K (T.cl 0)) (hn : n ∈ fmNames) (h : n ∉ ns) (hl : ns.length < 1000) (r : R [(x, .ins 0 (ns ++ [n]) (l ++ [z]))]) : Rcv FK T (.adr x) z n [(x, .ins 0 ns l)] R :=
  ⟨x, 0, ns, l, [], [], _, _, rfl, rfl, zf.cls, zf.nos n hn, hl, .new ns l h, r⟩
theorem rcv_at (j : Nat) (zf : FZ T.K (T.cl 0)) (hn : n ∈ fmNames) (h : ns.Nodup) (hj : ns[j]? = some n) (hl : ns.length < 1000) (r : R [(x, .ins 0 ns (l.set j z))]) : Rcv FK T (.adr x) z n [(x, .ins 0 ns l)] R :=
  ⟨x, 0, ns, l, [], [], _, _, rfl, rfl, zf.cls, zf.nos n hn, hl, .at ns l j h hj, r⟩
end
theorem allsD_of {x : Addr} {f : Fm} : ∀ {e : List (D × Fm)}, (∀ p ∈ e, p.1 = .fm p.2 ∨ (p.1 = .adr x ∧ p.2 = f)) → AllsD x f (e.map (·.1)) (e.map (·.2))
  | [], _ => rfl
  | p :: e, h => ⟨p.2, _, rfl, h p List.mem_cons_self, allsD_of fun q hq => h q (List.mem_cons_of_mem _ hq)⟩
theorem fm_map (l : List Fm) : (l.map fun g => (D.fm g, g)).map (·.1) = l.map .fm := by rw [List.map_map]; rfl
theorem fm_map2 (l : List Fm) : (l.map fun g => (D.fm g, g)).map (·.2) = l := by rw [List.map_map]; exact List.map_id l
theorem max_int (m n : Nat) : (if (n : Int) > (m : Int) then (n : Int) else (m : Int)) = ((max m n : Nat) : Int) := by
  split <;> omega
theorem empty_app (x : Str) : Str.empty ++ x = x := str_ext (by rw [str_app]; rfl)
@[reducible] def kvE (l : List (D × Fm)) : List (Key × D) := l.map fun p => (Sum.inr p.2.spell, p.1)
theorem kvE_keys (l : List (D × Fm)) : (kvE l).map (·.1) = (l.map fun p => p.2.spell).map Sum.inr := by simp [kvE]
theorem getG_kvE : ∀ {l : List (D × Fm)} {p : D × Fm}, p ∈ l → (l.map fun p => p.2.spell).Nodup → getG (kvE l) (Sum.inr p.2.spell) = some p.1
  | [], p, h, _ => by simp at h
  | q :: l, p, h, nd => by
    rw [List.map_cons, List.nodup_cons] at nd
    unfold getG kvE
    rw [List.map_cons, List.find?_cons]
    by_cases e : (Sum.inr q.2.spell : Key) = Sum.inr p.2.spell
    · simp only [e, decide_true, Option.map_some]
      rcases List.mem_cons.mp h with h | h
      · rw [h]
      · refine absurd (List.mem_map.mpr ⟨p, h, ?_⟩) nd.1
        exact (Sum.inr.inj e).symm
    · simp only [e, decide_false]
      rcases List.mem_cons.mp h with h | h
      · exact absurd (by rw [h]) e
      · exact getG_kvE h nd.2
theorem put_kvE {l : List (D × Fm)} {d : D} {g : Fm} (ol : ∀ p ∈ l, p.2.okL) (og : g.okL) : ∃ l', putG (kvE l) (Sum.inr g.spell) d = kvE l' ∧ (∀ p ∈ l', p ∈ l ∨ p = (d, g)) ∧ (∀ x ∈ l.map (·.2), x ∈ l'.map (·.2)) ∧ g ∈ l'.map (·.2) ∧ l'.length ≤ l.length + 1 := by
  unfold putG
  split
  · rename_i ha
    refine ⟨l.map fun q => if q.2.spell = g.spell then (d, q.2) else q, ?_, fun p hp => ?_, fun x hx => ?_, ?_, by simp⟩
    · simp only [kvE, List.map_map]
      refine List.map_congr_left fun q hq => ?_
      by_cases e : q.2.spell = g.spell
      · simp [Function.comp, e]
      · simp [Function.comp, e]
    · obtain ⟨q, hq, e⟩ := List.mem_map.mp hp
      by_cases h : q.2.spell = g.spell
      · rw [if_pos h] at e
        rw [Fm.spell_inj (ol q hq) og h] at e
        exact .inr e.symm
      · rw [if_neg h] at e
        subst e
        exact .inl hq
    · obtain ⟨q, hq, e⟩ := List.mem_map.mp hx
      refine List.mem_map.mpr ⟨_, List.mem_map.mpr ⟨q, hq, rfl⟩, ?_⟩
      split
      · exact e
      · exact e
    · rw [List.any_eq_true] at ha
      obtain ⟨z, hz, e⟩ := ha
      obtain ⟨q, hq, e2⟩ := List.mem_map.mp hz
      subst e2
      have e := Sum.inr.inj (of_decide_eq_true e)
      refine List.mem_map.mpr ⟨_, List.mem_map.mpr ⟨q, hq, rfl⟩, ?_⟩
      rw [if_pos e]
      exact Fm.spell_inj (ol q hq) og e
  · refine ⟨l ++ [(d, g)], by simp [kvE], fun p hp => ?_, fun x hx => ?_, by simp, by simp⟩
    · rcases List.mem_append.mp hp with h | h
      · exact .inl h
      · exact .inr (List.mem_singleton.mp h)
    · rw [List.map_append]
      exact List.mem_append_left _ hx
theorem merge_of {l m : List Fm} {e : List (D × Fm)} (hl : l ≠ []) (hm : m ≠ []) (ol : ∀ x ∈ l ++ m, x.okL) (hs : sortedS (e.map fun p => p.2.spell) = true) (nd : (e.map fun p => p.2.spell).Nodup) (h : ∀ x, x ∈ e.map (·.2) ↔ x ∈ l ++ m) : e.map (·.2) = Fm.merge l m := by
  unfold Fm.merge
  rw [if_neg hl, if_neg hm]
  refine Fm.asc_eq ?_ (Fm.asc_fold ol) fun x => by rw [h x, Fm.mem_fold]
  have := sorted_all hs nd
  rw [List.pairwise_map] at this
  unfold Fm.asc
  rw [List.pairwise_map]
  exact this
def isLet (x : Str) : Bool := match lets x with
  | [c] => decide ((65 ≤ c ∧ c ≤ 90) ∨ (97 ≤ c ∧ c ≤ 122))
  | _ => false
theorem isLet_sg (c : Nat) : isLet (sg c) = decide ((65 ≤ c ∧ c ≤ 90) ∨ (97 ≤ c ∧ c ≤ 122)) := rfl
theorem isLet_long {x : Str} (h : x.length ≠ 1) : isLet x = false := by
  unfold isLet
  split
  · rename_i c e
    rw [str_len, show x.cps.toList = [c] from e] at h
    exact absurd rfl h
  · rfl
theorem one_sign {x : Str} (h : x.length = 1) : ∃ c, x = sg c := by
  rw [str_len] at h
  match e : x.cps.toList, h with
  | [c], _ => exact ⟨c, str_ext e⟩
theorem in_letters (c : Nat) : decide (c ∈ ("ABCDEFGHIJKLMNOPQRSTUVWXYZabcdefghijklmnopqrstuvwxyz" : Str).cps.toList) = isLet (sg c) := by
  rw [isLet_sg]
  have e : ("ABCDEFGHIJKLMNOPQRSTUVWXYZabcdefghijklmnopqrstuvwxyz" : Str).cps.toList = List.range' 65 26 ++ List.range' 97 26 := by decide +kernel
  rw [e]
  congr 1
  rw [List.mem_append, List.mem_range'_1, List.mem_range'_1]
  simp only [eq_iff_iff]
  omega
def S_united : FS := fun ds W post => ∃ x y : Str, ds = [.str x, .str y] ∧ x.length + y.length < 4000 ∧ W = [] ∧ post (.str (unite x y)) []
def S_merged : FS := fun ds W post => ∃ e1 e2 : List (D × Fm), ds = [.tup (e1.map (·.1)), .tup (e2.map (·.1))] ∧ (∀ p ∈ e1 ++ e2, p.2.okL ∧ Spl W p.1 p.2) ∧ e1.length < 64 ∧ e2.length < 64 ∧ (Fm.merge (e1.map (·.2)) (e2.map (·.2))).length < 64 ∧
  ∀ e' : List (D × Fm), e'.map (·.2) = Fm.merge (e1.map (·.2)) (e2.map (·.2)) → (∀ p ∈ e', p ∈ e1 ++ e2) → post (.tup (e'.map (·.1))) W
def S_init : FS := fun ds W post => ∃ (x : Addr) (f : Fm), ds = [.adr x, .str f.kind, .tup (partsD f)] ∧ W = [(x, .ins 0 [] [])] ∧ f.okF ∧
  ∀ al, AllsD x f al f.alls → post .non [(x, .ins 0 fmNames [.str f.kind, .tup (partsD f), .int (f.many : Nat), .int (f.deep : Nat), .str f.atoms, .str f.outer, .str f.spell, .tup al])]
end N
set_option Elab.async false
set_option linter.all false
set_option maxRecDepth 100000
namespace N
open PySem PySem.Spec PyProof.Rows L2
theorem relV_ref (a : Addr) : RelV (.ref a) (.ref a) := rfl
theorem relV_ty (s : String) : RelV (.ty s) (.type s) := rfl
section
variable {X : Cx} {K : PySem.W.Frag}
theorem pe_fldK {e : Expr} {f : Str} {pos : Pos} {ta : TE} (hK : X.K = K) (h : PE X e ta) (hb : attributeBase e f X.env (eval e X.env) = eval e X.env) : PE X (e.Attribute f pos) (tFld K ta f) := hK ▸ pe_fld h hb
theorem ix_listK (hK : X.K = K) : IxR X (rIxL K) := hK ▸ ix_list
theorem ix_tupK (hK : X.K = K) : IxR X (rIxT K) := hK ▸ ix_tup
theorem call_lenK (hK : X.K = K) : CallR X (.builtin "len") (fun xs H Q => ∃ x n, xs = [x] ∧ LenV K x H n ∧ Q (.int (n : Nat)) H) := hK ▸ call_len
theorem pg_tupK {pos : Pos} {es : List Expr} {k : Nat} {t : TGs} {n : Nat} (hK : X.K = K) (hc : X.calm = true) (h : PGs X es t) (h1 : (assignEach es X.env).length = n := by rfl) (h2 : List.findIdx? (fun x => x.1) (assignEach es X.env) = none := by rfl) : PG X (Expr.Tuple es k pos) (gTup K n t) := hK ▸ pg_tup hc h h1 h2
theorem pi_listK {tg l : Expr} {tl : TE} (hK : X.K = K) (h : PE X l tl) : PI X tg l (iList K tl) := hK ▸ pi_list h
end
def tIfT (tc ta tb : TT) : TT := fun σ H Q => tc σ H fun c H1 => if c = true then ta σ H1 Q else tb σ H1 Q
theorem pt_ifE {X : Cx} {c a b : Expr} {tc ta tb : TT} {pos : Pos} (hc : PT X c tc) (ha : PT X a ta) (hb : PT X b tb) : PT X (.IfExp c a b pos) (tIfT tc ta tb) := by
  refine ⟨fun pins s σ H Q I h => ?_⟩
  rw [PySem.arm_isTrue_IfExp]
  refine wpAny_bind (thn (hc.run pins s σ H _ I h) fun d s1 ⟨H1, I1, q1⟩ => ?_)
  cases d with
  | true => exact ha.run pins s1 σ H1 Q I1 q1
  | false => exact hb.run pins s1 σ H1 Q I1 q1
theorem et_ifE {F : FmKit} {T : Kx} {tc ta tb : TT} {G : Gm} {W : Om} {S : Bool → Om → Prop} (h : EvT F T tc G W fun c W1 => if c = true then EvT F T ta G W1 S else EvT F T tb G W1 S) : EvT F T (tIfT tc ta tb) G W S := fun C H O σ w Q q =>
  h C H O σ w _ fun c W1 H1 O1 s n => by
    cases c with
    | true => exact s C H1 O1 σ (w.step n) _ fun b W2 H2 O2 s2 n2 => q b W2 H2 O2 s2 (n.trans n2)
    | false => exact s C H1 O1 σ (w.step n) _ fun b W2 H2 O2 s2 n2 => q b W2 H2 O2 s2 (n.trans n2)
end N
set_option Elab.async false
set_option linter.all false
set_option maxRecDepth 100000
namespace N
open PySem PySem.Spec PyProof.Rows L2
open C8 (InsC Cal)
namespace Fm
abbrev neg (f : Fm) : Fm := .imp f .no
abbrev conj (f g : Fm) : Fm := neg (.imp f (neg g))
end Fm
section
variable {T : Kx} {C H H' O O' : Hp} {G : Gm} {W W' : Om} {σ : L2.St} {a p : Addr} {d : D} {l : List D} {ta : TE} {tr : TA} {R : D → Om → Prop} {S : FS} {E : XK}
/-- Formula(kind, ..) -/
theorem ev_mkF (h : EvA FK T tr G W fun ds W1 => ∃ f : Fm, ds = .str f.kind :: partsD f ∧ f.okF ∧ R (.fm f) W1) : Ev FK T (StX.tMakeR (T.cl 0) (spN FK T (starS 2 S_init)) E tr) G W R :=
  ev_fz (ev_makeR (fun C H O σ w Q q => h C H O σ w Q fun ds W1 H1 O1 vs ⟨f, e, hf, r⟩ n k => q ds W1 H1 O1 vs (fun x hx => by
    subst e
    refine ⟨[(x, .ins 0 [] [])], W1, List.Perm.refl _, by simp, ?_, x, f, rfl, rfl, hf, fun al ha => ⟨rfl, x, _, W1, .fm f, rfl, List.Perm.refl _, .fm f al ha, r⟩⟩
    have : (partsD f).length ≤ 2 := by cases f <;> simp [partsD]
    simp
    omega) n k))
theorem ev_inv (h : Ev FK T ta G W fun d W1 => ∃ f, d = .fm f ∧ Hand S [.fm f] W1 R) : Ev FK T (tUn (rOwn1 (T.cl 0) (spN FK T S) E) ta) G W R :=
  ev_un (h.imp fun d W1 ⟨f, e, hh⟩ => by
    subst e
    exact ca_own1 (.fm f) hh)
theorem ca_strF {f : Fm} (h : Hand S [.fm f] W fun d' W' => (∃ z, d' = .str z) ∧ R d' W') : Ca FK T (rStrO (T.cl 0) (spN FK T S)) [.fm f] W R := ca_strO (.fm f) h
theorem ev_prpF (h : Ev FK T ta G W fun d W1 => ∃ f, d = .fm f ∧ Hand S [.fm f] W1 R) : Ev FK T (tProp (T.cl 0) (spN FK T S) [] E ta) G W R :=
  ev_prop (h.imp fun d W1 ⟨f, e, hh⟩ => by
    subst e
    exact ⟨_, _, .fm f, hh⟩)
theorem ca_strS {s : Str} (h : R (.str s) W) : Ca FK T (fun xs H Q => ∃ a, xs = [.str a] ∧ Q (.str a) H) [.str s] W R := cl_sc (xs := [.str s]) fun H Q k => ⟨s, rfl, k _ h⟩
end
def S_str : FS := fun ds W post => ∃ f : Fm, ds = [.fm f] ∧ W = [] ∧ post (.str f.spell) []
end N
set_option Elab.async false
set_option linter.all false
set_option maxRecDepth 100000
namespace N
open PySem PySem.Spec PyProof.Rows L2
section
variable {F : FmKit} {T : Kx} {C H H' O O' : Hp} {G : Gm} {W W' : Om} {R : D → Om → Prop} {d : D}
theorem bo_inSg {c : Nat} {z : Str} (r : R (.bl (decide (c ∈ z.cps.toList))) W) : Bo F T (fun x y H Q => ∃ (c : Nat) (z : Str), x = .str ⟨#[c]⟩ ∧ y = .str z ∧ Q (.bl (decide (c ∈ z.cps.toList))) H) (.str (sg c)) (.str z) W R := op_sc fun H Q k => ⟨c, z, rfl, rfl, k _ r⟩
theorem isi_strF {s : Str} {c : Nat} {ns : List Str} (z : CZ T.K (T.cl c) ns) (r : R (.bl false) W) : Ca F T (rIsi T.K) [.str s, .adr (T.cl c)] W R := ca_isi (.own _) tyd_str z.ist r
end
end N
set_option Elab.async false
set_option linter.all false
set_option maxRecDepth 100000
namespace N
open PySem PySem.Spec PyProof.Rows L2
open C8 (Cal)
structure Ok1 (k n : Nat) (d : PyData) : Prop where
  lv : PyData.leavesShort 13 d = true
  sh : d.showable = true
  nd : d.hasDict = false
  dp : d.depth ≤ k
  wt : d.weight ≤ n
theorem Ok1.up {k n k' n' : Nat} {d : PyData} (h : Ok1 k n d) (hk : k ≤ k') (hn : n ≤ n') : Ok1 k' n' d := ⟨h.lv, h.sh, h.nd, Nat.le_trans h.dp hk, Nat.le_trans h.wt hn⟩
/-- data one behind the other -/
structure OkL (k n : Nat) (l : List PyData) : Prop where
  lv : PyData.leavesShortAll 13 l = true
  sh : PyData.showableAll l = true
  nd : PyData.hasDictAll l = false
  dp : PyData.depthAll l ≤ k
  wt : PyData.weightAll l ≤ n
theorem OkL.lst {k n : Nat} {l : List PyData} (h : OkL k n l) : Ok1 (k + 1) n (.list l) := by
  refine ⟨by simp [PyData.leavesShort, h.lv], by simp [PyData.showable, h.sh], by simp [PyData.hasDict, h.nd], ?_, ?_⟩
  · have := h.dp
    simp only [PyData.depth]
    omega
  · have := h.wt
    simp only [PyData.weight]
    omega
theorem OkL.tup {k n : Nat} {l : List PyData} (h : OkL k n l) : Ok1 (k + 1) n (.tuple l) := by
  refine ⟨by simp [PyData.leavesShort, h.lv], by simp [PyData.showable, h.sh], by simp [PyData.hasDict, h.nd], ?_, ?_⟩
  · have := h.dp
    simp only [PyData.depth]
    omega
  · have := h.wt
    simp only [PyData.weight]
    omega
theorem OkL.up {k n k' n' : Nat} {l : List PyData} (h : OkL k n l) (hk : k ≤ k') (hn : n ≤ n') : OkL k' n' l := ⟨h.lv, h.sh, h.nd, Nat.le_trans h.dp hk, Nat.le_trans h.wt hn⟩
structure CalK (P : Program) (w : World) (K : PySem.W.Frag) (mg : Str → Option Value) (base : Heap) (k : Nat) (x : Str) (ks : List Str) (gV : List V → List V → List V) (sp : Sp) : Prop where
  ex : ∃ (f : Addr) (fd : FuncData) (ps : List Str) (g : List Value → List Value → List Value), FnOk P w K mg base CX0 k f fd ps sp ∧ mg x = some (.ref f) ∧ PySem.W.keepIn K (.ref f) = true ∧ KBn K fd ps 0 ks g gV
theorem kb_of {K : PySem.W.Frag} {x qual : Str} {st : Stmt} {f : Addr} {fd : FuncData} {ps ks : List Str} {g : List Value → List Value → List Value} {gV : List V → List V → List V} (Fn : Fun K x qual st f fd)
    (h : ∀ (kV doc pm : Value) (an : Option Addr) (cdv ct : Value) (ws : List Value), ws.length = ks.length → bindArgs (PySem.W.fnOf x qual (defArgs st) (defBody st) (defScope st) .none kV doc pm an cdv ct) ⟨[], ks.zip ws⟩ = pure (ps.zip (g [] ws)))
    (rel : ∀ {vs : List V} {us : List Value} {zs : List V} {ws : List Value}, Vals vs us → Vals zs ws → Vals (gV vs zs) (g us ws)) : KBn K fd ps 0 ks g gV := by
  obtain ⟨oc, od, kV, doc, pm, an, cdv, ct, osl, rfl, lk, hcd⟩ := Fn.ex
  refine ⟨fun s us ws _ h1 h2 => ?_, rel⟩
  have : us = [] := List.length_eq_zero_iff.mp h1
  subst this
  exact .of_eq (h kV doc pm an cdv ct ws h2)
section
variable {P : Program} {w : World} {K : PySem.W.Frag} {mg : Str → Option Value} {base : Heap} {F : FmKit} {cl : Nat → Addr} {S : FS}
/-- a def that is called both by places and by names -/
theorem calDK {x : Str} {st : Stmt} {f : Addr} {fd : FuncData} {N ps ks : List Str} {g : List Value → List Value → List Value} {gV : List V → List V → List V} {k : Nat} (hm : mg x = some (.ref f)) (Fn : Fun K x x st f fd) (Sc : FnScope N ps (defScope st)) (len : ∀ ds W post, S ds W post → ds.length = ps.length)
    (hb : ∀ (kV doc pm : Value) (an : Option Addr) (cdv ct : Value) (us : List Value), us.length = ps.length → bindArgs (PySem.W.fnOf x x (defArgs st) (defBody st) (defScope st) .none kV doc pm an cdv ct) ⟨us, []⟩ = pure (ps.zip us))
    (kb : KBn K fd ps 0 ks g gV)
    (body : ∀ (cdv : Value) (A : Around) (outer : List Env) (s : Shared) (H : Hp) (E : XK), Room k (A.deeper (envOfC x (defScope st) s.heap.objs.size f cdv)) →
      ∃ t, PSs (cxOf CX0 P w K mg base N x (defScope st) f cdv A outer s H E).nox (defBody st) t ∧ ∀ ds W post, S ds W post → Sw F ⟨K, cl⟩ t (startD N ds) W (E_ post)) :
    Cal P w K mg base (k + 1) x (spN F ⟨K, cl⟩ S) [] ∧ CalK P w K mg base (k + 1) x ks gV (spN F ⟨K, cl⟩ S) :=
  have ok := okD Fn Sc len body
  ⟨⟨f, fd, ps, [], ok, hm, Fn.kp, Fn.binds hb, .nil⟩, ⟨f, fd, ps, g, ok, hm, Fn.kp, kb⟩⟩
end
section
variable {X : Cx} {k j : Nat} {x : Str} {sp : Sp} {p pos : Pos}
def tCallKw (n : Nat) (sp : Sp) (gV : List V → List V → List V) (tk : TA) : TE := fun σ H Q => tk σ H fun zs H2 => zs.length = n ∧ sp (gV [] zs) H2 Q E0
theorem pe_ck {ks : List Str} {gV : List V → List V → List V} {kws : List Keyword} {tk : TA} (c : CalK X.prog X.w X.K X.mg X.base k x ks gV sp) (hr : Room j X.A) (hk : k ≤ j) (hg : Gl X x) (hkw : PK X kws tk)
    (hall : (backToKw pos (keywordEach kws X.env)).all (·.1.isSome) = true := by rfl) (hks : (backToKw pos (keywordEach kws X.env)).filterMap (·.1) = ks := by rfl)
    (hdb : (x == ("__debug__" : Str)) = false := by decide)
    (hpl : ((backTo pos (starEach [] X.env)).any (·.1) || (backToKw pos (keywordEach kws X.env)).any (·.1.isNone)) = false := by rfl) : PE X (.Call (.Name x p) [] kws pos) (tCallKw ks.length sp gV tk) := by
  obtain ⟨f, fd, ps, g, h, hm, kp, kb⟩ := c.ex
  exact pe_callN0 h (hr.mono hk) hg hm kp kb pass0 hkw hall hks hdb hpl
end
section
variable {F : FmKit} {T : Kx} {C H H' O O' : Hp} {G : Gm} {W W' : Om} {R : D → Om → Prop} {S : FS} {tk : TA}
theorem ev_ck {n : Nat} {gV : List V → List V → List V} (h : EvA F T tk G W fun ds W1 => ds.length = n ∧ ∃ as, (∀ H zs, DenL F T H ds zs → DenL F T H as (gV [] zs)) ∧ Hand S as W1 R) : Ev F T (tCallKw n (spN F T S) gV tk) G W R := fun C H O σ w Q q =>
  h C H O σ w _ fun ds W1 H1 O1 zs ⟨h1, as, ha, hh⟩ n1 k1 => ⟨by rw [k1.len]; exact h1, hh.run n1.dis n1.oc n1.own (ha H1 zs k1) fun d W' H' O' v r n2 kd => q d W' H' O' v r (n1.trans n2) kd⟩
end
section
variable {F : FmKit} {T : Kx} {C H H' O O' : Hp} {G : Gm} {W W' : Om} {R : D → Om → Prop} {d e : D} {l m : List D} {te : TE} {t : TT}
theorem ei_imp {wi : TI} {Y Z : List D → Om → Prop} (h : EvI F T wi G W Y) (i : ∀ l W', Y l W' → Z l W') : EvI F T wi G W Z := fun C H O σ w Q q => h C H O σ w Q fun J ds W' H' O' y => q J ds W' H' O' (i _ _ y)
/-- list, tuple or text by a place -/
theorem bo_ixSq {i : Int} {z : D} (hv : Vs W d l) (hi : atI l i = some z) (r : R z W) : Bo F T (rIx T.K) d (.int i) W R := fun C H O di oc ow x y hx hy Q q => by
  obtain ⟨a, xs, e, hs, kl⟩ := hv.sq ow di hx
  have hy : y = .int i := hy
  obtain ⟨v, ev, kv⟩ := kl.atI hi
  subst e hy
  rcases hs with hs | hs
  · exact .inl ⟨a, xs, i, v, rfl, rfl, hs, ev, q z W H O v r (.refl di oc ow) kv⟩
  · exact .inr (.inl ⟨a, xs, i, v, rfl, rfl, hs, ev, q z W H O v r (.refl di oc ow) kv⟩)
theorem bo_ixSqS {i : Int} {x : Str} {c : Nat} (hl : x.length ≤ sizeLine) (hi : atI (lets x) i = some c) (r : R (.str (sg c)) W) : Bo F T (rIx T.K) (.str x) (.int i) W R := op_sc fun H Q k => .inr (.inr ⟨x, i, c, rfl, rfl, hl, hi, k _ r⟩)
/-- lists joined, frozen -/
theorem bo_cat (h1 : Vt W d l) (h2 : Vt W e m) (hl : l.length + m.length ≤ sizeLine) (r : R (.lst (l ++ m)) W) : Bo F T rCat d e W R := fun C H O di oc ow x y hx hy Q k => by
  obtain ⟨a, us, ea, ha, ku⟩ := h1.at ow di hx
  obtain ⟨b, vs, eb, hb, kv⟩ := h2.at ow di hy
  refine ⟨a, b, us, vs, ea, eb, ha, hb, by rw [ku.len, kv.len]; exact hl, fun z hz => ?_⟩
  obtain ⟨n2, e2, s2⟩ := (Nx.refl (F := F) (T := T) di oc ow).newF (o := .lst (us ++ vs)) hz
  rw [e2]
  exact k _ _ _ _ _ r n2 ⟨z, _, rfl, upd_same, (ku.mono s2).app (kv.mono s2)⟩
/-- a comprehension, frozen -/
theorem ev_lcF {vs : List Nat} {wi : TI} {g : TG} (h : EvI F T wi G W fun ds W1 => ∃ I : Nat → List D → Om → Prop, I 0 [] W1 ∧
      (∀ i d acc W', ds[i]? = some d → I i acc W' → Tw F T vs g d (wipeG G vs) fun G2 => EvT F T t G2 W' fun b W2 => if b = true then Ev F T te G2 W2 (fun z W3 => acc.length < sizeLine ∧ I (i + 1) (acc ++ [z]) W3) else I (i + 1) acc W2) ∧
      (∀ acc W', I ds.length acc W' → R (.lst acc) W')) : Ev F T (tLc wi g t te vs) G W R :=
  ev_fz (ev_lc (ei_imp h fun ds W1 ⟨I, h1, h2, h3⟩ => ⟨I, h1, h2, fun acc W' hi p hp => ⟨p, _, W', _, rfl, List.Perm.refl _, .lst _, h3 acc W' hi⟩⟩))
/-- .. each item by itself -/
theorem ev_lcM {vs : List Nat} {wi : TI} {g : TG} (h : EvI F T wi G W fun ds W1 => ∃ es : List D, (∀ (i : Nat) (d e : D), ds[i]? = some d → es[i]? = some e → Tw F T vs g d (wipeG G vs) fun G2 => EvT F T t G2 W1 fun b W2 => b = true ∧ Ev F T te G2 W2 (fun z W3 => z = e ∧ W3 = W1)) ∧ es.length = ds.length ∧ es.length ≤ sizeLine ∧ R (.lst es) W1) : Ev F T (tLc wi g t te vs) G W R :=
  ev_lcF (ei_imp h fun ds W1 ⟨es, h3, h1, h2, h4⟩ => ⟨fun i acc W' => W' = W1 ∧ acc = es.take i, ⟨rfl, by simp⟩, fun i d acc W' hd ⟨e1, e2⟩ => by
    subst e1 e2
    have hi : i < ds.length := (List.getElem?_eq_some_iff.mp hd).1
    have he : es[i]? = some es[i] := List.getElem?_eq_getElem (by omega)
    refine fun H H1 σ v lo s k Q q => h3 i d es[i] hd he H H1 σ v lo s k Q fun G2 σ2 et l2 w2 => q G2 σ2 (fun C H O σ w Q q => et C H O σ w Q fun b W2 H2 O2 ⟨e, ev⟩ n => q b W2 H2 O2 ?_ n) l2 w2
    subst e
    rw [if_pos rfl]
    refine ev.imp fun z W3 ⟨e1, e2⟩ => ⟨by rw [List.length_take]; omega, e2, ?_⟩
    rw [e1, List.take_add_one, he]
    rfl, fun acc W' ⟨e1, e2⟩ => by
    subst e1 e2
    rw [← h1, List.take_length]
    exact h4⟩)
end
theorem cut63 {xs : List D} (h : xs.length ≤ 63) : cutD xs none (some 63) = xs := by
  unfold cutD
  have e1 : HT.sIx xs.length 0 none = 0 := rfl
  have e2 : HT.sIx xs.length xs.length (some 63) = min 63 xs.length := HT.sIx_nat _ _ 63
  rw [e1, e2, List.drop_zero]
  exact List.take_of_length_le (by omega)
/-- a deck at a, c draws done, all that belongs to it in W -/
abbrev Deck := Addr → Int → Om → Prop
abbrev kS (s : Str) : Key := Sum.inr s
@[reducible] def dkA (a l : Addr) (cells : List Int) (s c : Int) : Om := [(a, .dp [(kS "great", .adr l), (kS "mixed", .int s), (kS "lap", .int c)]), (l, .lst (cells.map D.int))]
def DkA : Deck := fun a c W => ∃ (l : Addr) (cells : List Int) (s n : Int), W = dkA a l cells s n ∧ cells.length ≤ 64 ∧ 0 ≤ n ∧ n ≤ c
def S_deck (Dk : Deck) : FS := fun ds W post => ∃ ns : List Int, ds = [.scr (ns.map V.int)] ∧ W = [] ∧ ns.length ≤ 63 ∧ ∀ (a : Addr) (W' : Om), Dk a 0 W' → post (.adr a) W'
def S_draw (Dk : Deck) : FS := fun ds W post => ∃ (a : Addr) (c n : Int), ds = [.adr a, .int n] ∧ Dk a c W ∧ 0 < n ∧ n < 1073741824 ∧ c < 2 ^ 60 ∧
  ∀ (z : Int) (W' : Om), 0 ≤ z → z < n → Dk a (c + 1) W' → post (.int z) W'
def S_pick (Dk : Deck) : FS := fun ds W post => ∃ (a : Addr) (c : Int) (m : D), ds = [.adr a, m] ∧ Dk a c W ∧ c < 2 ^ 60 ∧
  ((∃ l : List D, (m = .lst l ∨ m = .tup l) ∧ l ≠ [] ∧ l.length ≤ 1000000 ∧ ∀ z ∈ l, ∀ W', Dk a (c + 1) W' → post z W') ∨
   ∃ x : Str, m = .str x ∧ x.length ≠ 0 ∧ x.length ≤ 1000000 ∧ ∀ q ∈ lets x, ∀ W', Dk a (c + 1) W' → post (.str (sg q)) W')
theorem at_of_draw {α : Type} {l : List α} {z : Int} (h0 : 0 ≤ z) (h1 : z < l.length) : ∃ y ∈ l, atI l z = some y := by
  have hz : z.toNat < l.length := by omega
  refine ⟨l[z.toNat], List.getElem_mem hz, ?_⟩
  unfold atI ixN
  rw [if_pos h0, if_pos h1]
  simp [hz]
/-- what is asked of law: a list of at most 63 ints in, True out -/
def spTop (K : PySem.W.Frag) : Sp := fun vs H Q _ => ∃ (a : Addr) (ns : List Int), vs = [.ref a] ∧ SqL K H a (ns.map V.int) ∧ ns.length ≤ 63 ∧ ∀ H', Q (.bl true) H'
def S_law : FS := fun ds W post => ∃ ns : List Int, ds = [.scr (ns.map V.int)] ∧ W = [] ∧ ns.length ≤ 63 ∧ ∀ W', post (.bl true) W'
theorem top_sp {K : PySem.W.Frag} {cl : Nat → Addr} {vs : List V} {H : Hp} {Q : VK} {E : XK} (h : spTop K vs H Q E) : spN FK ⟨K, cl⟩ S_law vs H Q E := by
  obtain ⟨a, ns, rfl, hs, hl, q⟩ := h
  refine ⟨[.scr (ns.map V.int)], [], fun _ => none, H, fun _ => none, fun d W' => d = .bl true, ?_, ?_, fun _ _ e => e, ⟨List.nodup_nil, fun _ _ h => by cases h⟩, ⟨_, _, rfl, ⟨a, rfl, hs⟩, rfl⟩, ⟨ns, rfl, rfl, hl, fun W' => rfl⟩, fun d W' H' O' v e n kd => ?_⟩
  · funext b
    rfl
  · intro b o e
    cases e
  · subst e
    have kd : v = .bl true := kd
    subst kd
    exact q _
end N
set_option Elab.async false
set_option linter.all false
set_option maxRecDepth 100000
namespace L2
open PySem PySem.Spec PyProof.Rows
end L2
namespace N
open PySem L2
theorem ev_neg {F : FmKit} {T : Kx} {G : Gm} {W : Om} {R : D → Om → Prop} {ta : TE} {g : Int → V} (h : Ev F T ta G W fun d W1 => ∃ i : Int, d = .int i ∧ R (.vl (g i)) W1) : Ev F T (tUn (rU g) ta) G W R :=
  ev_un (h.imp fun d W1 ⟨i, e, r⟩ => by
    subst e
    exact cl_sc (xs := [.int i]) fun H Q k => ⟨.int i, rfl, i, rfl, k _ r⟩)
end N
set_option Elab.async false
set_option linter.all false
set_option maxRecDepth 100000
namespace N
open PySem PySem.Spec PyProof.Rows L2
section
variable (F : FmKit) (T : Kx)
def EvPs : List (TE × TE) → Gm → Om → List (Key × D) → (List (Key × D) → Om → Prop) → Prop
  | [], _, W, acc, Y => Y acc W
  | (tk, tv) :: r, G, W, acc, Y => Ev F T tk G W fun y W1 => Ev F T tv G W1 fun z W2 => ∃ k, y = kD k ∧ EvPs r G W2 (acc ++ [(k, z)]) Y
end
def mergeG (ps : List (Key × D)) : List (Key × D) := ps.foldl (fun acc kv => putG acc kv.1 kv.2) []
section
variable {F : FmKit} {T : Kx} {C H H' O O' : Hp} {G : Gm} {W W' : Om} {R : D → Om → Prop} {σ : L2.St} {d e : D} {l m : List D} {te : TE} {t : TT}
theorem EvPs.run {Y : List (Key × D) → Om → Prop} : ∀ {trs : List (TE × TE)} {acc : List (Key × D)} {W : Om} {H O : Hp}, EvPs F T trs G W acc Y → Wd F T C G W H O σ → ∀ Q : List (V × V) → Hp → Prop,
    (∀ (ps : List (Key × D)) (kvs : List (Key × V)) W' H' O', Y (acc ++ ps) W' → Nx F T C W' H H' O' → kvs.map (·.1) = ps.map (·.1) → DenL F T H' (ps.map (·.2)) (kvs.map (·.2)) → ps.length = trs.length → Q (kvs.map fun kv => (kV kv.1, kv.2)) (ov O' H')) → tPairs trs σ (ov O H) Q
  | [], acc, W, H, O, h, w, Q, q => q [] [] W H O (by rw [List.append_nil]; exact h) w.nx rfl rfl rfl
  | (tk, tv) :: r, acc, W, H, O, h, w, Q, q => h C H O σ w _ fun y W1 H1 O1 yv h1 n1 k1 => h1 C H1 O1 σ (w.step n1) _ fun z W2 H2 O2 zv ⟨k, ek, h2⟩ n2 k2 => by
    subst ek
    have k1 : yv = kV k := k1
    subst k1
    refine EvPs.run h2 ((w.step n1).step n2) _ fun ps kvs W' H' O' y n3 e1 e2 e3 => ?_
    refine q ((k, z) :: ps) ((k, zv) :: kvs) W' H' O' (by simpa using y) ((n1.trans n2).trans n3) (by simp [e1]) ⟨zv, _, rfl, k2.mono n3.ext, e2⟩ (by simp [e3])
theorem mergeK_keys : ∀ {ps : List (Key × D)} {kvs : List (Key × V)} {acc : List (Key × D)} {av : List (Key × V)}, kvs.map (·.1) = ps.map (·.1) → av.map (·.1) = acc.map (·.1) → (acc.map (·.1)).Nodup → DenL F T H (ps.map (·.2)) (kvs.map (·.2)) → DenL F T H (acc.map (·.2)) (av.map (·.2)) →
    (mergeK av kvs).map (·.1) = (ps.foldl (fun acc kv => putG acc kv.1 kv.2) acc).map (·.1) ∧ ((ps.foldl (fun acc kv => putG acc kv.1 kv.2) acc).map (·.1)).Nodup ∧ DenL F T H ((ps.foldl (fun acc kv => putG acc kv.1 kv.2) acc).map (·.2)) ((mergeK av kvs).map (·.2))
  | [], [], acc, av, _, e, nd, _, k => ⟨e, nd, k⟩
  | [], _ :: _, _, _, h, _, _, _, _ => by simp at h
  | _ :: _, [], _, _, h, _, _, _, _ => by simp at h
  | (k, z) :: ps, (j, v) :: kvs, acc, av, h, e, nd, ⟨w, r, e1, k1, k2⟩, ka => by
    simp only [List.map_cons, List.cons.injEq] at h e1
    obtain ⟨h1, h2⟩ := h
    obtain ⟨e1, e2⟩ := e1
    subst h1 e1 e2
    exact mergeK_keys (ps := ps) (kvs := kvs) (acc := putG acc j z) (av := putK av j v) h2 ((putG_V av j v) ▸ putG_keys (z := v) (y := z) e) (putG_nodup nd) k2 ((putG_V av j v) ▸ putG_den k1 e ka)
/-- {k: e, ..} -/
theorem ev_disp {trs : List (TE × TE)} (h : EvPs F T trs G W [] fun ps W' => ps.length ≤ 15 ∧ ∀ p, p ∉ akeys W' → R (.adr p) ((p, .dp (mergeG ps)) :: W')) : Ev F T (tDisp trs) G W R := fun C H O σ w Q q p hp => by
  obtain ⟨n0, e0, cp⟩ := w.nx.hide (o := .dK []) hp
  rw [e0]
  refine EvPs.run h ⟨n0.dis, n0.oc, w.loc, n0.own⟩ _ fun ps kvs W' H' O' y n e1 e2 e3 => ?_
  have hO : ov O' H' p = some (.dK []) := ov_own (n.oc p _ upd_same)
  have hl : kvs.length = ps.length := by
    have := congrArg List.length e1
    rwa [List.length_map, List.length_map] at this
  obtain ⟨y1, y2⟩ := y
  refine ⟨hO, kvs, rfl, by rw [hl]; exact y1, ?_⟩
  obtain ⟨n6, e6⟩ := Nx.rehide (o' := .dK (mergeK [] kvs)) n cp
  rw [e6]
  obtain ⟨m1, m2, m3⟩ := mergeK_keys (F := F) (T := T) (H := H') (acc := []) (av := []) e1 rfl List.nodup_nil e2 (show DenL F T H' (([] : List (Key × D)).map (·.2)) (([] : List (Key × V)).map (·.2)) from rfl)
  obtain ⟨n7, np⟩ := n6.show (od := .dp (mergeG ps)) cp ⟨mergeK [] kvs, rfl, m1, m2, m3⟩
  exact q (.adr p) _ H' _ _ (y2 p np) n7 rfl
theorem ca_slF {lo hi : Option Int} (hv : Vl W d l) (r : R (.lst (cutD l lo hi)) W) : Ca F T (fun xs H Q => ∃ x, xs = [x] ∧ rSlL T.K x lo hi H Q) [d] W R :=
  ca_fz (ca_slL hv fun p hp => ⟨p, _, W, _, rfl, List.Perm.refl _, .lst _, r⟩)
theorem ev_revF (h : Ev F T te G W fun d W1 => ∃ l, Vl W1 d l ∧ R (.lst l.reverse) W1) : Ev F T (tRevL T.K te) G W R :=
  ev_fz (ev_revL (h.imp fun d W1 ⟨l, hv, r⟩ => ⟨l, hv, fun p hp => ⟨p, _, W1, _, rfl, List.Perm.refl _, .lst _, r⟩⟩))
end
section
variable {F : FmKit} {T : Kx} {G : Gm} {W : Om} {R : D → Om → Prop}
theorem eps_nil {acc : List (Key × D)} {Y : List (Key × D) → Om → Prop} (h : Y acc W) : EvPs F T [] G W acc Y := h
theorem eps_cons {tk tv : TE} {r : List (TE × TE)} {acc : List (Key × D)} {Y : List (Key × D) → Om → Prop} (h : Ev F T tk G W fun y W1 => Ev F T tv G W1 fun z W2 => ∃ k, y = kD k ∧ EvPs F T r G W2 (acc ++ [(k, z)]) Y) : EvPs F T ((tk, tv) :: r) G W acc Y := h
theorem exk_str {s : Str} {Z : Key → Prop} (h : Z (Sum.inr s)) : ∃ k, D.vl (.str s) = kD k ∧ Z k := ⟨_, rfl, h⟩
theorem exk_int {i : Int} {Z : Key → Prop} (h : Z (Sum.inl i)) : ∃ k, D.vl (.int i) = kD k ∧ Z k := ⟨_, rfl, h⟩
theorem dg_str {d : D} {s : Str} {ps : List (Key × D)} {z : D} {Y : D → Prop} (hv : Vd W d ps) (hg : getG ps (Sum.inr s) = some z) (r : Y z) : ∃ ps k z, Vd W d ps ∧ D.vl (.str s) = kD k ∧ getG ps k = some z ∧ Y z := ⟨ps, _, z, hv, rfl, hg, r⟩
end
theorem putG_new {α : Type} {ps : List (Key × α)} {k : Key} {z : α} (h : k ∉ ps.map (·.1)) : putG ps k z = ps ++ [(k, z)] := by
  unfold putG
  rw [if_neg]
  intro e
  rw [List.any_eq_true] at e
  obtain ⟨q, hq, e⟩ := e
  exact h (List.mem_map.mpr ⟨q, hq, of_decide_eq_true e⟩)
theorem getG_hd {α : Type} (k : Key) (z : α) (ps : List (Key × α)) : getG ((k, z) :: ps) k = some z := by
  unfold getG
  rw [List.find?_cons, decide_eq_true rfl]
  rfl
theorem getG_tl {α : Type} {k j : Key} {y : α} {ps : List (Key × α)} {r : Option α} (h : decide (j = k) = false) (e : getG ps k = r) : getG ((j, y) :: ps) k = r := by
  rw [← e]
  unfold getG
  rw [List.find?_cons, h]
theorem putG_set {α : Type} {k : Key} {z : α} : ∀ {ps : List (Key × α)} {i : Nat}, (ps.map (·.1)).Nodup → (ps.map (·.1))[i]? = some k → putG ps k z = ps.set i (k, z) := fun {ps i} hn hi => by
  have hm : ∀ (ps : List (Key × α)) (i : Nat), (ps.map (·.1)).Nodup → (ps.map (·.1))[i]? = some k → (ps.any fun q => decide (q.1 = k)) = true ∧ ps.map (fun q => if q.1 = k then (q.1, z) else q) = ps.set i (k, z) := fun ps => by
    induction ps with
    | nil => intro i _ h; simp at h
    | cons p ps ih =>
      intro i hn hi
      rw [List.map_cons, List.nodup_cons] at hn
      cases i with
      | zero =>
        have e : p.1 = k := Option.some.inj hi
        refine ⟨by rw [List.any_cons, decide_eq_true e]; rfl, ?_⟩
        rw [List.map_cons, if_pos e, List.set_cons_zero, e]
        congr 1
        have : ∀ q ∈ ps, (if q.1 = k then (q.1, z) else q) = q := fun q hq => by
          rw [if_neg]
          intro e2
          exact hn.1 (List.mem_map.mpr ⟨q, hq, e2.trans e.symm⟩)
        rw [List.map_congr_left this, List.map_id']
      | succ i =>
        rw [List.map_cons, List.getElem?_cons_succ] at hi
        obtain ⟨h1, h2⟩ := ih i hn.2 hi
        refine ⟨by rw [List.any_cons, h1, Bool.or_true], ?_⟩
        have ne : p.1 ≠ k := fun e => hn.1 (by rw [e]; exact List.mem_of_getElem? hi)
        rw [List.map_cons, if_neg ne, List.set_cons_succ, h2]
  obtain ⟨h1, h2⟩ := hm ps i hn hi
  unfold putG
  rw [if_pos h1, h2]
theorem mergeG_acc : ∀ {ps acc : List (Key × D)}, ((acc ++ ps).map (·.1)).Nodup → ps.foldl (fun acc kv => putG acc kv.1 kv.2) acc = acc ++ ps
  | [], acc, _ => by simp
  | p :: ps, acc, h => by
    rw [List.foldl_cons]
    have hn : p.1 ∉ acc.map (·.1) := fun z => by
      rw [List.map_append, List.nodup_append] at h
      exact h.2.2 _ z _ (by simp) rfl
    rw [putG_new hn, mergeG_acc (by simpa using h)]
    simp
theorem mergeG_nd {ps : List (Key × D)} (h : (ps.map (·.1)).Nodup) : mergeG ps = ps := by
  unfold mergeG
  rw [mergeG_acc (by simpa using h)]
  rfl
end N
set_option Elab.async false
set_option linter.all false
set_option maxRecDepth 100000
namespace N
open PySem PySem.Spec PyProof.Rows L2
section
variable (F : FmKit) (T : Kx)
def Unr (vs : List Nat) (g : TG) (t : TT) (te : TE) (G0 : Gm) (Y : List D → Om → Prop) : List D → List D → Om → Prop
  | [], acc, W => Y acc W
  | d :: ds, acc, W => Tw F T vs g d G0 fun G2 => EvT F T t G2 W fun b W2 => if b = true then Ev F T te G2 W2 (fun z W3 => acc.length < sizeLine ∧ Unr vs g t te G0 Y ds (acc ++ [z]) W3) else Unr vs g t te G0 Y ds acc W2
def Swu (g : TG) (ts : TS) (E : En) : List D → Gm → Om → Prop
  | [], G, W => E.nx G W
  | d :: ds, G, W => Tg F T g d G fun G2 => Sw F T ts G2 W { E with nx := Swu g ts E ds, ct := Swu g ts E ds, bk := E.nx }
end
section
variable {F : FmKit} {T : Kx} {G : Gm} {W : Om} {R : D → Om → Prop} {te : TE} {t : TT} {vs : List Nat} {wi : TI} {g : TG} {ts : TS} {E : En} {d : D} {ds acc : List D} {Y : List D → Om → Prop}
theorem unr_nil (h : Y acc W) : Unr F T vs g t te G Y [] acc W := h
theorem unr_cons (h : Tw F T vs g d G fun G2 => EvT F T t G2 W fun b W2 => if b = true then Ev F T te G2 W2 (fun z W3 => acc.length < sizeLine ∧ Unr F T vs g t te G Y ds (acc ++ [z]) W3) else Unr F T vs g t te G Y ds acc W2) : Unr F T vs g t te G Y (d :: ds) acc W := h
theorem swu_nil (h : E.nx G W) : Swu F T g ts E [] G W := h
theorem swu_cons (h : Tg F T g d G fun G2 => Sw F T ts G2 W { E with nx := Swu F T g ts E ds, ct := Swu F T g ts E ds, bk := E.nx }) : Swu F T g ts E (d :: ds) G W := h
theorem acc_ok (h : acc.length ≤ 1000 := by simp) : acc.length < sizeLine := by
  have := sizeLine_eq
  omega
end
section
variable {F : FmKit} {T : Kx} {W : Om} {R : D → Om → Prop}
theorem ca_intBt {b : Bool} (hb : b = true) (h : R (.int 1) W) : Ca F T (fun xs H Q => (∃ i, xs = [.int i] ∧ Q (.int i) H) ∨ ∃ k, xs = [.bl k] ∧ Q (.int (if k then 1 else 0)) H) [.bl b] W R := ca_intB (by rw [hb]; exact h)
theorem ca_intBf {b : Bool} (hb : b = false) (h : R (.int 0) W) : Ca F T (fun xs H Q => (∃ i, xs = [.int i] ∧ Q (.int i) H) ∨ ∃ k, xs = [.bl k] ∧ Q (.int (if k then 1 else 0)) H) [.bl b] W R := ca_intB (by rw [hb]; exact h)
end
section
variable {F : FmKit} {T : Kx} {C H H' O O' : Hp} {W : Om} {R : D → Om → Prop} {S : FS} {l : List D}
theorem tyd_tup : TyD F T W (.tup l) (.type "tuple") := fun C H O di ow x k => by
  obtain ⟨a, xs, e, hs, kl⟩ := k
  subst e
  rcases Same.sqT di.same hs with (h | ⟨o, h⟩) | ⟨o, its, n, h1, h2, _⟩
  · exact .base (.tup h)
  · exact .fTuple h
  · exact .kTuple h1 h2
theorem isi_tup (r : R (.bl true) W) : Ca F T (rIsi T.K) [.tup l, .vl (.ty "tuple")] W R := ca_isi (.ty "tuple") tyd_tup (by unfold PySem.W.kitOne; rfl) r
theorem isi_fm {f : Fm} {ns : List Str} (z : CZ T.K (T.cl 0) ns) (r : R (.bl true) W) : Ca FK T (rIsi T.K) [.fm f, .adr (T.cl 0)] W R := isi_ins (.fm f) z.ins r
theorem ca_lenF {f : Fm} (h : Hand S [.fm f] W fun d' W' => (∃ n : Int, d' = .int n ∧ 0 ≤ n ∧ n < 2 ^ 63) ∧ R d' W') : Ca FK T (rLenO (T.cl 0) (spN FK T S)) [.fm f] W R := ca_lenO (.fm f) h
end
end N
set_option Elab.async false
set_option linter.all false
set_option maxRecDepth 100000
set_option maxHeartbeats 4000000
namespace XE
open PySem PySem.W PySem.Calls PyProof.Rows
abbrev exTail : List Value := [.type "Exception", .type "BaseException", .type "object"]
/-- own classes, then Exception's mro -/
def refsX : List Value → Bool
  | .ref _ :: r => refsX r
  | l => l == exTail
theorem refsX_cases : ∀ l : List Value, refsX l = true → (∃ c r, l = .ref c :: r ∧ refsX r = true) ∨ l = exTail
  | [], e => .inr (beq_iff_eq.mp e)
  | .ref c :: r, e => .inl ⟨c, r, rfl, e⟩
  | .none :: _, e => .inr (beq_iff_eq.mp e)
  | .ellipsis :: _, e => .inr (beq_iff_eq.mp e)
  | .notImplemented :: _, e => .inr (beq_iff_eq.mp e)
  | .bool _ :: _, e => .inr (beq_iff_eq.mp e)
  | .int _ _ :: _, e => .inr (beq_iff_eq.mp e)
  | .float _ _ :: _, e => .inr (beq_iff_eq.mp e)
  | .str _ _ :: _, e => .inr (beq_iff_eq.mp e)
  | .bytes _ _ :: _, e => .inr (beq_iff_eq.mp e)
  | .type _ :: _, e => .inr (beq_iff_eq.mp e)
  | .builtin _ :: _, e => .inr (beq_iff_eq.mp e)
theorem refsX_pass (self : Value) : ∀ l : List Value, refsX l = true → refuseLoop self "__setattr__" l = pure () := by
  intro l
  induction l with
  | nil => intro e; exact absurd e (by decide)
  | cons a r ih =>
    intro e
    rcases refsX_cases (a :: r) e with ⟨c, r', q, h⟩ | q
    · obtain ⟨rfl, rfl⟩ := List.cons.inj q
      rw [refuseLoop_ref]; exact ih h
    · rw [q]; exact F.store_Exception.passes self
theorem refsX_contains (X : String) : ∀ l : List Value, refsX l = true → l.contains (.type X) = exTail.contains (.type X) := by
  intro l
  induction l with
  | nil => intro e; exact absurd e (by decide)
  | cons a r ih =>
    intro e
    rcases refsX_cases (a :: r) e with ⟨c, r', q, h⟩ | q
    · obtain ⟨rfl, rfl⟩ := List.cons.inj q
      rw [List.contains_cons, ih h]; rfl
    · rw [q]
theorem refsX_ne {l : List Value} (e : refsX l = true) : l.isEmpty = false := by
  cases l with
  | nil => exact absurd e (by decide)
  | cons _ _ => rfl
section
open Builtin Builtin.ObjectAttr
variable {prog : Program} {w : World} {A : Around} {E : Value → Shared → Prop} {R : Result → Shared → Prop} {hp : Heap} {g : Array GenState} {d : Drawn} {t : Nat} {os : OsState}
theorem osa_base {K : W.Frag} {name : Str} {tk : Tok} {v : Value} {x C : Addr} {ox : Obj} {od : Option Obj} {cd : ClassData}
    (X : K.In hp) (I : W.InstAt hp x ox C od) (hcd : W.clsIn K C = some cd) (hm : refsX cd.mro = true) (ha : W.findIn K (.ref C) name = some none)
    (hq : wpAny (model prog w) A.in1 (storeInOwnDict (.ref x) (.ref C) (.str name tk) name v false)
      (fun fin s' => match fin with | .done f => R (.ok f) s' | .again c' => c'.quiet = true ∧ codeAny (model prog w) A c' R s') (fun e s' => R (.error e) s') ⟨hp, g, d, t, os⟩) :
    codeAny (model prog w) A (.call (.builtin "object.__setattr__") ⟨[.ref x, .str name tk, v], []⟩) R ⟨hp, g, d, t, os⟩ := by
  have SF := F.store_object
  have ne := refsX_ne hm
  have hob : cd.mro.contains (.type "object") = true := (refsX_contains "object" _ hm).trans (by decide +kernel)
  have sub : W.Looks (model prog w) hp (isInstance (.ref x) (.type "object")) true := I.type.andThen (W.looks_mroIn X (by unfold W.mroIn; rw [hcd, Option.bind_some, if_neg (by rw [ne]; decide), hob]))
  refine codeAny_call_builtin SF.slot.plain SF.entry (@W.check_slot (model prog w) _ _ ⟨hp, g, d, t, os⟩ "object.__setattr__" "object" "__setattr__" (.ref x) [.str name tk, v] [] _ SF.kind SF.split sub (SF.args (.ref x) (.str name tk) v) ?_)
  have hmr : W.Looks (model prog w) hp (mroOf (.ref C)) cd.mro := (W.looks_clsIn X hcd).andThen .now
  have L3 : W.Looks (model prog w) hp (storeTaker? none) none := .now
  rw [W.osa_eq, refuse_eq]
  refine wpAny_bind (wpAny_bind (I.type.at (wpAny_bind (hmr.at ?_))))
  rw [refsX_pass _ _ hm]
  refine wpAny_pure (wpAny_bind (I.type.at (wpAny_bind ((W.looks_findIn X ha).at (wpAny_bind (L3.at ?_))))))
  exact hq
theorem osa_new {K : W.Frag} {name : Str} {tk : Tok} {v : Value} {x C : Addr} {fv : Array Value} {cd : ClassData}
    (X : K.In hp) (hx : hp.get? x = some { cls := .ref C, data := .fields fv }) (hcd : W.clsIn K C = some cd) (hm : refsX cd.mro = true) (hh : cd.hasDict = true) (ha : W.findIn K (.ref C) name = some none)
    (hq : ∀ h' tk' dx, (∀ b o, b ≠ x → hp.get? b = some o → h'.get? b = some o) → hp.objs.size ≤ dx → dx ≠ x → h'.get? x = some { cls := .ref C, dict := some dx, data := .fields fv } →
      h'.Ns1 dx (fun y => if y = name then some v else none) → R (.ok (.ret .none)) ⟨h', g, d, tk', os⟩) :
    codeAny (model prog w) A (.call (.builtin "object.__setattr__") ⟨[.ref x, .str name tk, v], []⟩) R ⟨hp, g, d, t, os⟩ := by
  have I : W.InstAt hp x { cls := .ref C, data := .fields fv } C none := ⟨hx, rfl, rfl, trivial⟩
  have hxs : x ≠ hp.objs.size := Nat.ne_of_lt (Heap.lt_size hx)
  refine osa_base X I hcd hm ha ?_
  have hcls : W.Looks (model prog w) hp (classData C) cd := W.looks_clsIn X hcd
  obtain ⟨nm, bs, mro, ns, qn, hd, sn, sb, ab, col, del⟩ := cd
  dsimp only at hh
  subst hh
  unfold storeInOwnDict ownDictForStores
  repeat (first | with_reducible refine HandSPX.store_in_new ?_ ?_ | with_reducible refine wpAny_loadPart_at hx ?_ | with_reducible refine hcls.at ?_ | wp_step)
  · exact ⟨_, #[], _, (Heap.get?_update_ne _ _ _ _ hxs.symm).trans (Heap.get?_push_at rfl rfl), rfl, fun e he => absurd he (by simp), fun _ => rfl⟩
  · intro h' tk' hn' hs
    have hx₁ : (hp.push { cls := .type "dict", data := .dict #[] }).get? x = some { cls := .ref C, data := .fields fv } := Heap.get?_push_of_some _ hx
    refine hq h' tk' hp.objs.size (fun b o hb ho => ?_) (Nat.le_refl _) hxs.symm ?_ hn'
    · exact (hs.2 b (Nat.ne_of_lt (Heap.lt_size ho))).trans ((Heap.get?_update_ne _ _ _ _ hb).trans (Heap.get?_push_of_some _ ho))
    · exact (hs.2 x hxs).trans (Heap.get?_update_self _ hx₁ rfl)
end
end XE
namespace L2
open PySem PySem.Spec PyProof.Rows
/-- what the written part says of such a class -/
structure OexX (K : PySem.W.Frag) (C : Addr) : Prop where
  cls : ∃ nm q N bs bm sn sub ab col dd k0 k1 k2 k3 k5, K.lookup C = some (excClassObj nm q C N bs bm true sn sub ab col dd k0 k1 k2 k3 k5 "Exception.__new__") ∧ XE.refsX bm = true
  sa : PySem.W.findIn K (.ref C) "__setattr__" = some (some (.builtin "object.__setattr__"))
  exC : PySem.W.subIn K (.ref C) (.type "BaseException") = some true
  tyC : PySem.W.typeIn K (.ref C) = some (.type "type")
  kC : PySem.W.keepIn K (.ref C) = true
section
variable {X : Cx} {pins : List (Addr × Obj)} {σ : St} {H : Hp} {s : Shared} {a C dx : Addr} {f : Str} {y : V} {u : Value} {fs : List (Str × V)} {Q : Unit → Shared → Prop} {E : Value → Shared → Prop} {A : Around}
/-- self.f = y, the first one -/
theorem ostX_new (T : OexX X.K C) (I : Inv X pins σ H s) (e : H a = some (exo a C none)) (hno : PySem.W.findIn X.K (.ref C) f = some none) (ry : RelV y u)
    (h : ∀ dx s', H dx = none → dx ≠ a → Inv X pins σ (upd (upd H dx (exd dx [(f, y)])) a (exo a C (some dx))) s' → Q () s') : wpAny (model X.prog X.w) A (setAttr (.ref a) f u) Q E s := by
  obtain ⟨nm, q, N, bs, bm, sn, sub, ab, col, dd, k0, k1, k2, k3, k5, hC, hbm⟩ := T.cls
  have hcl : PySem.W.clsIn X.K C = some { name := nm, bases := bs, mro := .ref C :: bm, ns := N, qualname := q, hasDict := true, slotNames := sn, subclasses := sub, abstract := ab, collection := col, hasDel := false } := by unfold PySem.W.clsIn; rw [hC] <;> rfl
  obtain ⟨t1, ho⟩ := exo_at I.hok e
  obtain ⟨hp, g, d, t, os⟩ := s
  refine PySem.W.set_plain I.kIn (ox := { cls := .ref C, dict := none, data := .fields #[.ref t1, .none, .none, .none, .bool false, .none] }) (od := none) ⟨ho, rfl, rfl, trivial⟩ T.sa ?_
  refine XE.osa_new I.kIn ho hcl (show XE.refsX (.ref C :: bm) = true from hbm) rfl hno (fun h' tk' dx k dn dne hx hn => ?_)
  have hnd : H dx = none := I.hok.fresh dn
  have nd : ∀ {b : Addr} {o : Obj}, hp.get? b = some o → b ≠ dx := fun {b o} q => Nat.ne_of_lt (Nat.lt_of_lt_of_le (Heap.lt_size q) dn)
  have na : ∀ {b : Addr}, H b = none → b ≠ a := fun {b} n z => by
    rw [z, e] at n
    cases n
  have Un1 : Un X.fs [] H (upd (upd H dx (exd dx [(f, y)])) a (exo a C (some dx))) hp h' := {
    keep := fun b o q n _ _ => k b o (na n) q
    slot := fun b o q n _ _ => ⟨o.slots, k b o (na n) q⟩
    free := fun b o q n _ => by rw [upd_ne (na n), upd_ne (nd q)]; exact n
    there := fun b o q _ => by
      by_cases hb : b = a
      · exact ⟨_, by rw [hb]; exact hx⟩
      · exact ⟨o, k b o hb q⟩
    tups := fun b xs q => by rw [upd_ne (at_ne e q exo_tup), upd_ne (ne_of_none q hnd)]; exact q
    frzs := fun b o v q => by rw [upd_ne (at_ne e q exo_frz), upd_ne (ne_of_none q hnd)]; exact q
    tbls := fun b ps q => ⟨#[], by rw [upd_ne (at_ne e q exo_tbl), upd_ne (ne_of_none q hnd), q]; simp⟩ }
  refine h dx _ hnd dne (I.un (t' := tk') Un1 fun b o q => ?_)
  by_cases hb : b = a
  · subst hb
    rw [upd_same] at q
    cases q
    exact exo_ok hx
  · rw [upd_ne hb] at q
    by_cases hd : b = dx
    · subst hd
      rw [upd_same] at q
      cases q
      exact exd_ok hn (relO_put (fs := []) ry fun g => True.intro)
    · rw [upd_ne hd] at q
      exact (I.hok b o q).stay (fun c v hc z => k c v (by
          rcases hc with hc | hc
          · rw [hc]
            exact hb
          · exact at_ne e hc exo_own) z)
        (fun c hc => by rw [upd_ne (at_ne e hc exo_own), upd_ne (ne_of_none hc hnd)]; exact hc) (fun c xs hc => by rw [upd_ne (at_ne e hc exo_tup), upd_ne (ne_of_none hc hnd)]; exact hc)
/-- Exception.__init__(self, ..): nothing of it is told -/
theorem oinitX_ok {us : List Value} {Q : Value → Shared → Prop} (T : OexX X.K C) (I : Inv X pins σ H s) (e : H a = some (exo a C none)) (hl : us.length ≤ sizeLine) (h : ∀ s', Inv X pins σ H s' → Q .none s') :
    wpAny (model X.prog X.w) A (call (.builtin "Exception.__init__") (.ref a :: us)) Q E s := by
  obtain ⟨nm, q, N, bs, bm, sn, sub, ab, col, dd, k0, k1, k2, k3, k5, hC, hbm⟩ := T.cls
  obtain ⟨t1, ho⟩ := exo_at I.hok e
  obtain ⟨hp, g, d, t, os⟩ := s
  refine wpAny_call (PySem.HandSPX.init_base F.excBase_Exception (fun Y => XE.refsX_contains Y bm hbm) (I.kIn _ _ hC) ho hl fun h' t2 k hx => ?_)
  have J := I.write (t' := t) (x := a) (e := a) (o := exo a C none) (by rw [e]; exact True.intro) (.inl rfl) k ⟨_, hx⟩ (exo_ok hx)
  have eu : upd H a (exo a C none) = H := by
    funext b
    by_cases hb : b = a
    · rw [hb, upd_same, e]
    · rw [upd_ne hb]
  rw [eu] at J
  exact h _ J
end
/-- B.__init__(self, ..), B an own class that takes Exception's -/
def tExI (K : PySem.W.Frag) (ta : TA) : TE := fun σ H Q => ta σ H fun vs H1 => ∃ (a C : Addr) (ws : List V), vs = .ref a :: ws ∧ ws.length ≤ 1000 ∧ OexX K C ∧ H1 a = some (exo a C none) ∧ Q .non H1
/-- self.f = e, the first field -/
def tOsx (K : PySem.W.Frag) (f : Str) (to te : TE) : TS := fun D σ H => te σ H fun y H1 => to σ H1 fun x H2 => ∃ a C : Addr, x = .ref a ∧ OexX K C ∧ PySem.W.findIn K (.ref C) f = some none ∧
  H2 a = some (exo a C none) ∧ ∀ dx, H2 dx = none → dx ≠ a → D.nx σ (upd (upd H2 dx (exd dx [(f, y)])) a (exo a C (some dx)))
/-- what is asked of the base class whose __init__ is called -/
structure BaseX (K : PySem.W.Frag) (B : Addr) : Prop where
  rd : ClX.CRead K B (.type "type")
  ini : PySem.W.findCls K (.ref B) (.type "type") "__init__" = some (.val (.builtin "Exception.__init__"))
section
variable {X : Cx} {o e : Expr} {es : List Expr} {to te : TE} {ta : TA} {f x : Str} {p p' p1 p2 pos : Pos} {B : Addr}
theorem pe_exinit {pl : Sem Bool} (T : BaseX X.K B) (hg : Gl X x) (hm : X.mg x = some (.ref B)) (ha : PA X (e :: es) ta) (hdb : (x == ("__debug__" : Str)) = false := by decide)
    (hc : eval (.Call (.Attribute (.Name x p1) "__init__" p2) (e :: es) [] pos) X.env = (do
      let ov ← eval (.Name x p1) X.env
      standAt p2.atName
      let (f, first) ← holding [ov] (getMethod ov "__init__" pl)
      callWith pos f first (backTo pos (starEach (e :: es) X.env)) (backToKw pos (keywordEach [] X.env))) := by rfl)
    (he : starEach (e :: es) X.env = (false, eval e X.env) :: starEach es X.env := by rfl) (hpl : (backTo pos (starEach es X.env)).any (·.1) = false := by rfl) :
    PE X (.Call (.Attribute (.Name x p1) "__init__" p2) (e :: es) [] pos) (tExI X.K ta) := by
  refine ⟨fun pins s σ H Q I h => ?_⟩
  refine PySem.W.methodCall_KW (ld_glob I hg hm ?_ hdb) hc
  refine PySem.W.method_cls I.kIn T.rd.ga (PySem.W.cls_value I.kIn T.rd.rd T.ini (by decide +kernel) ?_)
  show wpAny _ _ (callWith pos (Value.builtin "Exception.__init__") [] (backTo pos (starEach (e :: es) X.env)) []) _ _ _
  refine PyProof.Rows.callWith_method1 (thn (ha.run pos pins _ σ H _ (I.tok _) h) fun us s1 ⟨vs, H1, I1, r1, a, C, ws, ev, hl, T, ea, q⟩ => ?_) he hpl
  subst ev
  cases r1 with
  | @cons _ u0 _ ur ra rw' =>
    obtain rfl : u0 = Value.ref a := ra
    have hlen : ur.length ≤ sizeLine := by
      rw [← Paired.length rw', sizeLine_eq]
      omega
    exact oinitX_ok T I1 ea hlen fun s' J => ⟨.non, H1, J, rfl, q⟩
theorem ps_osx (ho : PE X o to) (he : PE X e te) (hs : swapsWith e (some (.Attribute o f p')) pos.line X.env = pure false := by rfl) : PS X (.Assign [.Attribute o f p'] e pos) (tOsx X.K f to te) := by
  refine ⟨fun pins s σ H D I h => ?_⟩
  refine plainObj_wpAny_Assign_Attribute (thn (he.run pins s σ H _ I h) fun v s1 ⟨y, H1, I1, r1, q1⟩ => thn (ho.run pins s1 σ H1 _ I1 q1) fun u s2 ⟨x, H2, I2, r2, a, C, ex, T, hno, ea, q⟩ => ?_) hs
  subst ex
  obtain rfl : u = Value.ref a := r2
  exact ostX_new T I2 ea hno r1 fun dx s' n ne J => ⟨σ, _, J, q dx n ne⟩
end
end L2
set_option Elab.async false
set_option linter.all false
set_option maxRecDepth 100000
set_option maxHeartbeats 4000000
namespace N
open PySem PySem.Spec PyProof.Rows L2
open C8 (Cal Met Mak pe_c pe_mt pe_mt0 pe_mk)
/-- what __init__ of an error class does -/
def spEr (C : Addr) (f : Str) : Sp := fun vs H Q _ => ∃ a y, vs = [.ref a, y] ∧ H a = some (exo a C none) ∧ ∀ dx, H dx = none → dx ≠ a → Q .non (upd (upd H dx (exd dx [(f, y)])) a (exo a C (some dx)))
structure ErC (K : PySem.W.Frag) (C : Addr) (f : Str) : Prop where
  oex : OexX K C
  xf : XfC K C
  no : PySem.W.findIn K (.ref C) f = some none
def tCmS (C : Addr) (sp : Sp) (E : L2.St → XK) (ta : TE) (t : TA) : TE := fun σ H Q => ta σ H fun x H1 => x = .ref C ∧ t σ H1 fun vs H2 => sp (.ref C :: vs) H2 Q (E σ)
def tCmKS (C : Addr) (n : Nat) (sp : Sp) (gV : List V → List V → List V) (E : L2.St → XK) (ta : TE) (tk : TA) : TE := fun σ H Q => ta σ H fun x H1 => x = .ref C ∧ tk σ H1 fun zs H2 => zs.length = n ∧ sp (gV [.ref C] zs) H2 Q (E σ)
def tMakS (C : Addr) (sp : Sp) (E : L2.St → XK) (t : TA) : TE := fun σ H Q => t σ H fun vs H1 => ∀ x dx, H1 x = none → H1 dx = none → dx ≠ x →
  sp (.ref x :: vs) (upd (upd H1 dx (.own x)) x (.ins C dx [])) (fun v H2 => v = .non ∧ Q (.ref x) H2) (E σ)
def tMakKS (C : Addr) (n : Nat) (sp : Sp) (gV : List V → List V → List V) (E : L2.St → XK) (tk : TA) : TE := fun σ H Q => tk σ H fun zs H2 => zs.length = n ∧ ∀ x dx, H2 x = none → H2 dx = none → dx ≠ x →
  sp (gV [.ref x] zs) (upd (upd H2 dx (.own x)) x (.ins C dx [])) (fun v H3 => v = .non ∧ Q (.ref x) H3) (E σ)
end N
set_option Elab.async false
set_option linter.all false
set_option maxRecDepth 100000
set_option maxHeartbeats 1000000
namespace N
open PySem PySem.Spec PyProof.Rows L2
/-- how an exception leaves: the class, the place of its dict, slots, owned cells (its dict among them) -/
abbrev EX := Nat → Addr → Gm → Om → Prop
/-- the dict of an exception of the class c: none for the classes from 100 on, which keep no fields -/
def dq (c : Nat) (d : Addr) : Option Addr := match Nat.ble 100 c with
  | true => none
  | false => some d
abbrev FX := List D → Om → (D → Om → Prop) → (Nat → Addr → Om → Prop) → Prop
section
variable (F : FmKit) (T : Kx)
def XOk (C H : Hp) (ex : EX) (W0 : WX) : Prop := ∀ c d G W H' O' σ, ex c d G W → Nx F T C W H H' O' → Lo F T H' G σ → W0 (.ref (T.cl c)) (dq c d) σ (ov O' H')
def EvX (W0 : WX) (te : TE) (G : Gm) (W : Om) (R : D → Om → Prop) (ex : EX) : Prop :=
  ∀ (C H O : Hp) (σ : L2.St), Wd F T C G W H O σ → XOk F T C H ex W0 → ∀ Q : VK, (∀ d W' H' O' v, R d W' → Nx F T C W' H H' O' → Den F T H' d v → Q v (ov O' H')) → te σ (ov O H) Q
def SwX (W0 : WX) (ts : TS) (G : Gm) (W : Om) (E : En) (ex : EX) : Prop :=
  ∀ (C H O : Hp) (σ : L2.St), Wd F T C G W H O σ → XOk F T C H ex W0 → ∀ B : Ends, EnOk F T C H E B → ts B σ (ov O H)
def spX (S : FX) : Sp := fun vs X Q E => ∃ (ds : List D) (W : Om) (C H O : Hp) (post : D → Om → Prop) (ex : Nat → Addr → Om → Prop), X = ov O H ∧ Dis O H ∧ Same C O ∧ Ow F T H C O W ∧ DenL F T H ds vs ∧ S ds W post ex ∧
  (∀ d W' H' O' v, post d W' → Nx F T C W' H H' O' → Den F T H' d v → Q v (ov O' H')) ∧ ∀ c d W' H' O', ex c d W' → Nx F T C W' H H' O' → E (.ref (T.cl c)) (dq c d) (ov O' H')
end
section
variable {F : FmKit} {T : Kx} {C H H' O O' : Hp} {G : Gm} {W W' : Om} {σ : L2.St} {a p : Addr} {od : OD} {d : D} {l : List D}
  {te ta tb : TE} {t u : TT} {R R' : D → Om → Prop} {Z : Bool → Om → Prop} {tr tk : TA} {ts tz : TS} {En1 E : En} {ex ex' : EX} {W0 : WX} {S : FX}
theorem XOk.up (h : XOk F T C H ex W0) (e : Same H H') : XOk F T C H' ex W0 := fun c d G W H2 O' σ x n l => h c d G W H2 O' σ x ⟨e.trans n.ext, n.dis, n.oc, n.own⟩ l
theorem evx_of (h : Ev F T te G W R) : EvX F T W0 te G W R ex := fun C H O σ w _ Q q => h C H O σ w Q q
theorem swx_of (h : Sw F T ts G W E) : SwX F T W0 ts G W E ex := fun C H O σ w _ B b => h C H O σ w B b
theorem sw_ofX (h : SwX F T W0 ts G W E fun _ _ _ _ => False) : Sw F T ts G W E := fun C H O σ w B b => h C H O σ w (fun _ _ _ _ _ _ _ z => z.elim) B b
theorem XOk.imp (h : XOk F T C H ex' W0) (i : ∀ c d G W, ex c d G W → ex' c d G W) : XOk F T C H ex W0 := fun c d G W H2 O' σ x n l => h c d G W H2 O' σ (i c d G W x) n l
theorem evx_fz (h : EvX F T W0 te G W (Fz F R) ex) : EvX F T W0 te G W R ex := fun C H O σ w x Q q => h C H O σ w x Q fun d W' H' O' v ⟨a, od, W2, d', e, hp, z, r⟩ n k => by
  subst e
  have k : v = .ref a := k
  subst k
  obtain ⟨o, _, n2, eo, k2, _⟩ := n.freeze hp z
  rw [eo]
  exact q d' W2 _ _ _ r n2 k2
theorem swx_seq (h : SwX F T W0 ts G W { E with nx := fun G' W' => SwX F T W0 tz G' W' E ex } ex) : SwX F T W0 (tSeq ts tz) G W E ex := fun C H O σ w x B b =>
  h C H O σ w x { B with nx := tz B } ⟨fun G' W' H' O' σ' a n l => a C H' O' σ' ⟨n.dis, n.oc, l, n.own⟩ (x.up n.ext) B (b.up n.ext), b.rt, b.bk, b.ct⟩
theorem swx_if (h : EvT F T t G W fun c W' => if c = true then SwX F T W0 ts G W' E ex else SwX F T W0 tz G W' E ex) : SwX F T W0 (tIfS t ts tz) G W E ex := fun C H O σ w x B b =>
  h C H O σ w _ fun c W' H' O' r n => by
    cases c with
    | true => exact r C H' O' σ (w.step n) (x.up n.ext) B (b.up n.ext)
    | false => exact r C H' O' σ (w.step n) (x.up n.ext) B (b.up n.ext)
theorem swx_set {i : Nat} (h : EvX F T W0 te G W (fun d W' => E.nx (G.set i (some d)) W') ex) : SwX F T W0 (tAsg te (gName i)) G W E ex := fun C H O σ w x B b =>
  h C H O σ w x _ fun d W' H' O' v r n k => b.nx _ W' H' O' _ r n ((w.loc.mono n.ext).set k)
theorem swx_asg {g : TG} (h : EvX F T W0 te G W (fun d W' => Ta F T g d G W' fun G2 W2 => E.nx G2 W2) ex) : SwX F T W0 (tAsg te g) G W E ex := fun C H O σ w x B b =>
  h C H O σ w x _ fun d W' H' O' v r n k => r C H' O' σ (w.step n) v k _ fun G2 W2 H2 O2 σ2 r2 n2 l2 => b.nx G2 W2 H2 O2 σ2 r2 (n.trans n2) l2
theorem swx_ret (h : EvX F T W0 te G W E.rt ex) : SwX F T W0 (tRet te) G W E ex := fun C H O σ w x B b =>
  h C H O σ w x _ fun d W' H' O' v r n k => b.rt d W' H' O' v r n k
theorem swx_drop (h : EvX F T W0 te G W (fun _ W' => E.nx G W') ex) : SwX F T W0 (tDrop te) G W E ex := fun C H O σ w x B b =>
  h C H O σ w x _ fun d W' H' O' v r n k => b.nx G W' H' O' σ r n (w.loc.mono n.ext)
theorem swx_next (h : E.nx G W) : SwX F T W0 tNext G W E ex := swx_of (sw_next h)
theorem swx_brk (h : E.bk G W) : SwX F T W0 tBreak G W E ex := swx_of (sw_brk h)
theorem swx_cont (h : E.ct G W) : SwX F T W0 tCont G W E ex := swx_of (sw_cont h)
theorem swx_retN (h : E.rt .non W) : SwX F T W0 tRetN G W E ex := swx_of (sw_retN h)
theorem swx_par {i j : Nat} (h : EvA F T tr G W fun ds W' => ∃ d1 d2, ds = [d1, d2] ∧ E.nx ((G.set i (some d1)).set j (some d2)) W') : SwX F T W0 (tPar i j tr) G W E ex := swx_of (sw_par h)
theorem swx_fld {n : Str} (h : Ev F T tb G W fun z W1 => Ev F T ta G W1 fun d W2 => Rcv F T d z n W2 (E.nx G)) : SwX F T W0 (sFld T.K ta tb n) G W E ex := swx_of (sw_fld h)
theorem swx_for {wi : TI} {g : TG} (h : EvI F T wi G W fun ds W1 => ∃ I : Nat → Gm → Om → Prop, I 0 G W1 ∧
      (∀ i d G' W', ds[i]? = some d → I i G' W' → Tg F T g d G' fun G2 => SwX F T W0 ts G2 W' { E with nx := I (i + 1), ct := I (i + 1), bk := E.nx } ex) ∧ (∀ G' W', I ds.length G' W' → E.nx G' W')) :
    SwX F T W0 (tFor wi g ts) G W E ex := fun C H O σ w x B b =>
  h C H O σ w _ fun J ds W1 H1 O1 ⟨I, i0, turn, fin⟩ n1 wk => by
    refine ⟨fun i m σ' X => m = ds.length - i ∧ i ≤ ds.length ∧ ∃ G' W' H' O', X = ov O' H' ∧ Nx F T C W' H1 H' O' ∧ Lo F T H' G' σ' ∧ I i G' W', ⟨ds.length, by simp, Nat.zero_le _, G, W1, H1, O1, rfl, ⟨Same.refl _, n1.dis, n1.oc, n1.own⟩, w.loc.mono n1.ext, i0⟩, ?_⟩
    rintro i m σ' X ⟨rfl, hi, G', W', H', O', rfl, n, l, ii⟩
    have k := wk i H' O' n.ext n.dis
    by_cases hlt : i < ds.length
    · obtain ⟨k1, k2⟩ := k.1 ds[i] (by simp [hlt])
      refine .inr ⟨k1, fun σ2 X2 => ∃ G2 W2 H2 O2, X2 = ov O2 H2 ∧ Nx F T C W2 H1 H2 O2 ∧ Lo F T H2 G2 σ2 ∧ I (i + 1) G2 W2, fun σ2 X2 ⟨G2, W2, H2, O2, e, n2, l2, i2⟩ => ⟨ds.length - (i + 1), by omega, rfl, hlt, G2, W2, H2, O2, e, n2, l2, i2⟩, fun x2 X2 y => ?_⟩
      obtain ⟨H2, s2, d2, rfl, kx⟩ := k2 x2 X2 y
      refine turn i ds[i] G' W' (by simp [hlt]) ii H2 _ σ' x2 (l.mono s2) d2.same kx _ fun G3 σ3 sw l3 => ?_
      refine sw C H2 O' σ3 ⟨d2, n.oc, l3, n.own.mono s2⟩ (x.up ((n1.ext.trans n.ext).trans s2)) _ ⟨fun G4 W4 H4 O4 σ4 a n4 l4 => ⟨G4, W4, H4, O4, rfl, ⟨(n.ext.trans s2).trans n4.ext, n4.dis, n4.oc, n4.own⟩, l4, a⟩, ?_, ?_, fun G4 W4 H4 O4 σ4 a n4 l4 => ⟨G4, W4, H4, O4, rfl, ⟨(n.ext.trans s2).trans n4.ext, n4.dis, n4.oc, n4.own⟩, l4, a⟩⟩
      · exact fun d W4 H4 O4 v a n4 k4 => b.rt d W4 H4 O4 v a ⟨((n1.ext.trans n.ext).trans s2).trans n4.ext, n4.dis, n4.oc, n4.own⟩ k4
      · exact fun G4 W4 H4 O4 σ4 a n4 l4 => b.nx G4 W4 H4 O4 σ4 a ⟨((n1.ext.trans n.ext).trans s2).trans n4.ext, n4.dis, n4.oc, n4.own⟩ l4
    · have e : i = ds.length := by omega
      subst e
      exact .inl ⟨k.2 rfl, b.nx G' W' H' O' σ' (fin G' W' ii) ⟨n1.ext.trans n.ext, n.dis, n.oc, n.own⟩ l⟩
theorem frame {Wc Wf : Om} (di : Dis O H) (oc : Same C O) (ow : Ow F T H C O (Wc ++ Wf)) : ∃ C', Same C' O ∧ Ow F T H C' O Wc ∧ ∀ W' H' O', Nx F T C' W' H H' O' → Nx F T C (W' ++ Wf) H H' O' := by
  have nd := ow.nd
  have nd2 : (akeys Wc ++ akeys Wf).Nodup := by
    have e : akeys (Wc ++ Wf) = akeys Wc ++ akeys Wf := by simp [akeys]
    rw [← e]
    exact nd
  rw [List.nodup_append] at nd2
  obtain ⟨ndc, ndf, dj⟩ := nd2
  have inF : ∀ b, b ∈ akeys Wf → ∃ od, (b, od) ∈ Wf := fun b hb => by
    obtain ⟨x, hx, e⟩ := List.mem_map.mp hb
    exact ⟨x.2, by rw [← e]; exact hx⟩
  have atF : ∀ b od, (b, od) ∈ Wf → C b = none ∧ OdAt F T H (O b) od := fun b od m => ow.at_ b od (List.mem_append_right _ m)
  refine ⟨fun b => if b ∈ akeys Wf then O b else C b, fun b o e => ?_, ⟨ndc, fun a od m => ?_⟩, fun W' H' O' n => ⟨n.ext, n.dis, fun b o e => ?_, ⟨?_, fun a od m => ?_⟩⟩⟩
  · by_cases hb : b ∈ akeys Wf
    · simp only [if_pos hb] at e
      exact e
    · simp only [if_neg hb] at e
      exact oc b o e
  · have hn : a ∉ akeys Wf := fun z => dj a (mem_akeys m) a z rfl
    rw [if_neg hn]
    exact ow.at_ a od (List.mem_append_left _ m)
  · refine n.oc b o ?_
    by_cases hb : b ∈ akeys Wf
    · obtain ⟨od, m⟩ := inF b hb
      rw [(atF b od m).1] at e
      cases e
    · rw [if_neg hb]
      exact e
  · have e : akeys (W' ++ Wf) = akeys W' ++ akeys Wf := by simp [akeys]
    rw [e, List.nodup_append]
    refine ⟨n.own.nd, ndf, fun x hx y hy exy => ?_⟩
    subst exy
    obtain ⟨z, hz, ez⟩ := List.mem_map.mp hx
    have h1 := (n.own.at_ z.1 z.2 hz).1
    rw [ez, if_pos hy] at h1
    obtain ⟨od, m⟩ := inF _ hy
    obtain ⟨o, eo⟩ := (atF _ od m).2.some
    rw [h1] at eo
    cases eo
  · rcases List.mem_append.mp m with m | m
    · obtain ⟨h1, h2⟩ := n.own.at_ a od m
      refine ⟨?_, h2⟩
      by_cases hb : a ∈ akeys Wf
      · obtain ⟨od', m'⟩ := inF a hb
        exact (atF a od' m').1
      · rw [if_neg hb] at h1
        exact h1
    · obtain ⟨h1, h2⟩ := atF a od m
      obtain ⟨o, eo⟩ := h2.some
      have e2 : O' a = some o := n.oc a o (by rw [if_pos (mem_akeys (x := (a, od)) m)]; exact eo)
      rw [eo] at h2
      rw [e2]
      exact ⟨h1, h2.mono n.ext⟩
def HandX (S : FX) (ds : List D) (W : Om) (R : D → Om → Prop) (rx : Nat → Addr → Om → Prop) : Prop := ∃ Wc Wf, W.Perm (Wc ++ Wf) ∧ S ds Wc (fun d W' => R d (W' ++ Wf)) fun c d W' => rx c d (W' ++ Wf)
variable {rx : Nat → Addr → Om → Prop}
theorem handX0 {ds : List D} (h : S ds [] (fun d W' => R d (W' ++ W)) fun c d W' => rx c d (W' ++ W)) : HandX S ds W R rx := ⟨[], W, List.Perm.refl _, h⟩
theorem HandX.run {ds : List D} {vs : List V} {Q : VK} {XE : XK} (h : HandX S ds W R rx) (di : Dis O H) (oc : Same C O) (ow : Ow F T H C O W) (k : DenL F T H ds vs) (q : ∀ d W' H' O' v, R d W' → Nx F T C W' H H' O' → Den F T H' d v → Q v (ov O' H'))
    (x : ∀ c d W' H' O', rx c d W' → Nx F T C W' H H' O' → XE (.ref (T.cl c)) (dq c d) (ov O' H')) : spX F T S vs (ov O H) Q XE := by
  obtain ⟨Wc, Wf, hp, hs⟩ := h
  obtain ⟨C', h1, h2, h3⟩ := frame di oc (ow.perm hp)
  exact ⟨ds, Wc, C', H, O, _, _, rfl, di, h1, h2, k, hs, fun d W' H' O' v r n kd => q d _ H' O' v r (h3 W' H' O' n) kd, fun c d W' H' O' r n => x c d _ H' O' r (h3 W' H' O' n)⟩
theorem evx_call (h : EvA F T tr G W fun ds W1 => HandX S ds W1 R fun c d W' => ex c d G W') : EvX F T W0 (tCallS (spX F T S) (WE W0) tr) G W R ex := fun C H O σ w x Q q =>
  h C H O σ w _ fun ds W1 H1 O1 vs h1 n k => h1.run n.dis n.oc n.own k (fun d W' H' O' v r n2 kd => q d W' H' O' v r (n.trans n2) kd) fun c d W' H' O' r n2 => x c d G W' H' O' σ r (n.trans n2) (w.loc.mono (n.trans n2).ext)
theorem evx_cm {c : Nat} (h : Ev F T te G W fun d W1 => d = .adr (T.cl c) ∧ EvA F T tr G W1 fun ds W2 => HandX S (.adr (T.cl c) :: ds) W2 R fun c d W' => ex c d G W') : EvX F T W0 (tCmS (T.cl c) (spX F T S) (WE W0) te tr) G W R ex := fun C H O σ w x Q q =>
  h C H O σ w _ fun d W1 H1 O1 y ⟨ed, ha⟩ n1 k1 => by
    subst ed
    exact ⟨k1, ha C H1 O1 σ (w.step n1) _ fun ds W2 H2 O2 vs hh n2 k2 => hh.run n2.dis n2.oc n2.own ⟨_, _, rfl, rfl, k2⟩ (fun d W' H' O' v r n3 kd => q d W' H' O' v r ((n1.trans n2).trans n3) kd)
      fun c d W' H' O' r n3 => x c d G W' H' O' σ r ((n1.trans n2).trans n3) (w.loc.mono ((n1.trans n2).trans n3).ext)⟩
theorem evx_cmk {c n : Nat} {gV : List V → List V → List V} (h : Ev F T te G W fun d W1 => d = .adr (T.cl c) ∧ EvA F T tk G W1 fun ds W2 => ds.length = n ∧ ∃ as, (∀ H x zs, Den F T H d x → DenL F T H ds zs → DenL F T H as (gV [x] zs)) ∧ HandX S as W2 R fun c d W' => ex c d G W') :
    EvX F T W0 (tCmKS (T.cl c) n (spX F T S) gV (WE W0) te tk) G W R ex := fun C H O σ w x Q q =>
  h C H O σ w _ fun d W1 H1 O1 y ⟨ed, ha⟩ n1 k1 => by
    subst ed
    refine ⟨k1, ha C H1 O1 σ (w.step n1) _ fun ds W2 H2 O2 vs ⟨hl, as, hg, hh⟩ n2 k2 => ⟨by rw [k2.len]; exact hl, ?_⟩⟩
    exact hh.run n2.dis n2.oc n2.own (hg H2 _ vs rfl k2) (fun d W' H' O' v r n3 kd => q d W' H' O' v r ((n1.trans n2).trans n3) kd)
      fun c d W' H' O' r n3 => x c d G W' H' O' σ r ((n1.trans n2).trans n3) (w.loc.mono ((n1.trans n2).trans n3).ext)
/-- a new instance is handed to a raising __init__ -/
theorem run_makeX {c : Nat} {as : Addr → List D} {vs : Addr → List V} {x dx : Addr} {Q : VK} {XE : XK} (n : Nx F T C W H H' O') (k : ∀ H2 x, Same H' H2 → DenL F T H2 (as x) (vs x)) (h : ∀ x, x ∉ akeys W → HandX S (as x) ((x, .ins c [] []) :: W) (fun d W' => d = .non ∧ R (.adr x) W') rx)
    (hx : ov O' H' x = none) (hdx : ov O' H' dx = none) (ne : dx ≠ x) (q : ∀ d W2 H2 O2 v, R d W2 → Nx F T C W2 H H2 O2 → Den F T H2 d v → Q v (ov O2 H2)) (xq : ∀ c d W2 H2 O2, rx c d W2 → Nx F T C W2 H H2 O2 → XE (.ref (T.cl c)) (dq c d) (ov O2 H2)) :
    spX F T S (vs x) (upd (upd (ov O' H') dx (.own x)) x (.ins (T.cl c) dx [])) (fun v H2 => v = .non ∧ Q (.ref x) H2) XE := by
  obtain ⟨n2, e2, s2⟩ := n.newF (o := .own x) hdx
  rw [e2]
  have hx2 : ov O' (upd H' dx (.own x)) x = none := by rw [← e2, upd_ne ne.symm]; exact hx
  obtain ⟨n3, e3, np⟩ := n2.newO (od := .ins c [] []) (o := .ins (T.cl c) dx []) hx2 ⟨dx, [], rfl, rfl, rfl⟩
  rw [e3]
  refine (h x np).run n3.dis n3.oc n3.own (k _ x s2) (fun d W' H2 O2 v ⟨e, r⟩ n4 kd => ?_) fun c d W' H2 O2 r n4 => xq c d W' H2 O2 r (n3.trans n4)
  subst e
  exact ⟨kd, q (.adr x) W' H2 O2 _ r (n3.trans n4) rfl⟩
theorem evx_mk {c : Nat} (h : EvA F T tr G W fun ds W1 => ∀ x, x ∉ akeys W1 → HandX S (.adr x :: ds) ((x, .ins c [] []) :: W1) (fun d W' => d = .non ∧ R (.adr x) W') fun c d W' => ex c d G W') : EvX F T W0 (tMakS (T.cl c) (spX F T S) (WE W0) tr) G W R ex := fun C H O σ w xo Q q =>
  h C H O σ w _ fun ds W1 H1 O1 vs h1 n k x dx hx hdx ne => run_makeX (as := fun x => .adr x :: ds) (vs := fun x => .ref x :: vs) n (fun H2 x s => ⟨_, _, rfl, rfl, k.mono s⟩) h1 hx hdx ne q
    fun c d W' H' O' r n2 => xo c d G W' H' O' σ r n2 (w.loc.mono n2.ext)
theorem evx_mkk {c m : Nat} {gV : List V → List V → List V} (h : EvA F T tk G W fun ds W1 => ds.length = m ∧ ∃ as : Addr → List D, (∀ H x zs, DenL F T H ds zs → DenL F T H (as x) (gV [.ref x] zs)) ∧ ∀ x, x ∉ akeys W1 → HandX S (as x) ((x, .ins c [] []) :: W1) (fun d W' => d = .non ∧ R (.adr x) W') fun c d W' => ex c d G W') :
    EvX F T W0 (tMakKS (T.cl c) m (spX F T S) gV (WE W0) tk) G W R ex := fun C H O σ w xo Q q =>
  h C H O σ w _ fun ds W1 H1 O1 vs ⟨hl, as, hg, h1⟩ n k => ⟨by rw [k.len]; exact hl, fun x dx hx hdx ne => run_makeX (as := as) (vs := fun x => gV [.ref x] vs) n (fun H2 x s => hg H2 x vs (k.mono s)) h1 hx hdx ne q
    fun c d W' H' O' r n2 => xo c d G W' H' O' σ r n2 (w.loc.mono n2.ext)⟩
theorem swx_raise {c : Nat} {f : Str} (h : EvA F T tr G W fun ds W1 => ∃ z, ds = [z] ∧ ∀ d, d ∉ akeys W1 → ex c d G ((d, .xd [f] [z]) :: W1)) (hc : Nat.ble 100 c = false) :
    SwX F T W0 (fun _ σ H => tMkO (T.cl c) (spEr (T.cl c) f) [] tr σ H fun cls d H' => W0 cls d σ H') G W E ex := fun C H O σ w xo B b =>
  h C H O σ w _ fun ds W1 H1 O1 vs ⟨z, e, hz⟩ n k => by
    subst e
    obtain ⟨v, r', e1, k1, e2⟩ := k
    have e2 : r' = [] := e2
    subst e2 e1
    refine ⟨by simp, fun a ha => ⟨a, v, rfl, upd_same, fun dx h1 h2 => ⟨rfl, dx, [(f, v)], upd_same, ?_, ?_, ?_⟩⟩⟩
    · rw [upd_ne h2, upd_same]
    · rwa [upd_ne h2] at h1
    · have h3 : ov O1 H1 dx = none := by rwa [upd_ne h2] at h1
      have e : upd (del (upd (upd (upd (ov O1 H1) a (exo a (T.cl c) none)) dx (exd dx [(f, v)])) a (exo a (T.cl c) (some dx))) a) dx (.xd [(f, v)]) = upd (ov O1 H1) dx (.xd [(f, v)]) := by
        funext y
        by_cases hy : y = dx
        · rw [hy, upd_same, upd_same]
        · rw [upd_ne hy, upd_ne hy]
          unfold del
          by_cases ha2 : y = a
          · rw [if_pos ha2, ha2, ha]
          · rw [if_neg ha2, upd_ne ha2, upd_ne hy, upd_ne ha2]
      show W0 _ _ σ (upd (L2.del _ a) dx _)
      have e' := e
      obtain ⟨n2, e3, np⟩ := n.newO (od := .xd [f] [z]) (o := .xd [(f, v)]) h3 ⟨[(f, v)], rfl, rfl, .one k1⟩
      rw [show upd (L2.del (upd (upd (upd (ov O1 H1) a (exo a (T.cl c) none)) dx (exd dx [(f, v)])) a (exo a (T.cl c) (some dx))) a) dx (.xd [(f, v)]) = upd (ov O1 H1) dx (.xd [(f, v)]) from e', e3]
      have xx := xo c dx G _ _ _ σ (hz dx np) n2 (w.loc.mono n2.ext)
      rw [show dq c dx = some dx from by unfold dq; rw [hc]] at xx
      exact xx
theorem swx_try {tb : WX → TS} {sx : Addr → Value → Option Addr → TS} {cc i : Nat} {ex1 : EX} (hb : ∀ W1, SwX F T W1 (tb W1) G W E ex1)
    (hs : ∀ c d G' W', ex1 c d G' W' → ∃ b, PySem.W.exmOne T.K (.ref (T.cl c)) (.ref (T.cl cc)) = some b ∧ (b = true → ∀ a, Sw F T (sx a (.ref (T.cl c)) (dq c d)) (G'.set i (some (.adr a))) W'
      { nx := fun G2 W2 => E.nx (G2.set i none) W2, rt := E.rt, bk := fun G2 W2 => E.bk (G2.set i none) W2, ct := fun G2 W2 => E.ct (G2.set i none) W2 }) ∧ (b = false → ex c d G' W')) :
    SwX F T W0 (fun B σ H => tb (wAs T.K (.ref (T.cl cc)) i sx W0 B) B σ H) G W E ex := fun C H O σ w xo B b => by
  refine hb _ C H O σ w (fun c d G' W' H' O' σ' e n l => ?_) B b
  obtain ⟨bb, h1, h2, h3⟩ := hs c d G' W' e
  refine ⟨bb, h1, fun q a ha => ?_, fun q => xo c d G' W' H' O' σ' (h3 q) n l⟩
  refine h2 q a C H' O' _ ⟨n.dis, n.oc, l.set rfl, n.own⟩ _ ⟨fun G2 W2 H2 O2 σ2 z n2 l2 => b.nx _ W2 H2 O2 _ z (n.trans n2) (l2.forget none), fun d W2 H2 O2 v z n2 k2 => b.rt d W2 H2 O2 v z (n.trans n2) k2,
    fun G2 W2 H2 O2 σ2 z n2 l2 => b.bk _ W2 H2 O2 _ z (n.trans n2) (l2.forget none), fun G2 W2 H2 O2 σ2 z n2 l2 => b.ct _ W2 H2 O2 _ z (n.trans n2) (l2.forget none)⟩
theorem swx_tryG {tb : (Ends → WX) → TS} {sx : Addr → Value → Option Addr → TS} {cc i : Nat} {ex1 : EX} (hp : ∀ w B, tb w B = tb (fun _ => w B) B) (hb : ∀ W1, SwX F T W1 (tb fun _ => W1) G W E ex1)
    (hs : ∀ c d G' W', ex1 c d G' W' → ∃ b, PySem.W.exmOne T.K (.ref (T.cl c)) (.ref (T.cl cc)) = some b ∧ (b = true → ∀ a, Sw F T (sx a (.ref (T.cl c)) (dq c d)) (G'.set i (some (.adr a))) W'
      { nx := fun G2 W2 => E.nx (G2.set i none) W2, rt := E.rt, bk := fun G2 W2 => E.bk (G2.set i none) W2, ct := fun G2 W2 => E.ct (G2.set i none) W2 }) ∧ (b = false → ex c d G' W')) :
    ∀ wx, wAs T.K (.ref (T.cl cc)) i sx W0 = wx → SwX F T W0 (tb wx) G W E ex := by
  rintro _ rfl
  have h := swx_try (tb := fun W => tb fun _ => W) hb hs (W0 := W0) (ex := ex)
  have e : (fun B σ H => tb (fun _ => wAs T.K (.ref (T.cl cc)) i sx W0 B) B σ H) = tb (wAs T.K (.ref (T.cl cc)) i sx W0) := funext fun B => (hp _ B).symm
  rw [e] at h
  exact h
/-- e.f, e the exception that is held -/
theorem ev_xf {c : Nat} {a dd : Addr} {f : Str} (h : Ev F T te G W fun d W1 => d = .adr a ∧ ∃ ns l z, (dd, OD.xd ns l) ∈ W1 ∧ (ns.zip l).lookup f = some z ∧ R z W1) : Ev F T (tXf a (.ref (T.cl c)) (some dd) (T.cl c) f te) G W R := fun C H O σ w Q q =>
  h C H O σ w _ fun d W1 H1 O1 x ⟨e, ns, l, z, hm, hl, r⟩ n k => by
    subst e
    obtain ⟨_, fs, h1, h2, h3⟩ := n.own.at_ dd _ hm
    subst h2
    obtain ⟨v, hv, kv⟩ := look_zip h3 hl
    exact ⟨k, rfl, dd, fs, v, rfl, ov_own h1, hv, q z W1 H1 O1 v r n kv⟩
end
section
variable {P : Program} {w : World} {K : PySem.W.Frag} {mg : Str → Option Value} {base : Heap} {F : FmKit} {cl : Nat → Addr} {S : FX}
/-- the wish of a def about what it lets out -/
abbrev WD (E : XK) : WX := fun cls d _ H => E cls d H
theorem spX_len {n : Nat} (len : ∀ ds W post ex, S ds W post ex → ds.length = n) : ∀ vs H Q E, spX F ⟨K, cl⟩ S vs H Q E → vs.length = n := fun vs H Q E ⟨ds, W, C, H1, O, post, ex, _, _, _, _, k, h, _⟩ => by
  rw [k.len]
  exact len ds W post ex h
theorem body_runX {N : List Str} {t : TS} {vs : List V} {H : Hp} {Q : VK} {E : XK} (h : spX F ⟨K, cl⟩ S vs H Q E) (b : ∀ ds W post ex, S ds W post ex → SwX F ⟨K, cl⟩ (WD E) t (startD N ds) W (E_ post) fun c d _ W => ex c d W) : t { nx := fun _ H' => Q .non H', rt := Q } (L2.start N vs) H := by
  obtain ⟨ds, W, C, H1, O, post, ex, e, di, oc, ow, k, hs, q, x⟩ := h
  subst e
  exact b ds W post ex hs C H1 O _ ⟨di, oc, k.lo, ow⟩ (fun c d G W' H' O' σ' r n _ => x c d W' H' O' r n) _ ⟨fun G W' H' O' σ' r n l => q .non W' H' O' .non r n rfl, fun d W' H' O' v r n kd => q d W' H' O' v r n kd, fun _ _ _ _ _ z => z.elim, fun _ _ _ _ _ z => z.elim⟩
end
end N
set_option Elab.async false
set_option linter.all false
set_option maxRecDepth 100000
set_option maxHeartbeats 1000000
namespace N
open PySem PySem.Spec PyProof.Rows L2
/-- an exception on the ground, ahead of the clauses -/
structure Lnd (X : Cx) (pins : List (Addr × Obj)) (σ : L2.St) (H : Hp) (a : Addr) (cls : Value) (d : Option Addr) (B : Heap) (sI s : Shared) : Prop where
  stk : X.stack = X.env :: X.outer
  frm : X.env.frame = some X.env.locals
  inv : Inv X pins σ H sI
  base : ∀ b o, sI.heap.get? b = some o → b ∉ frs X.stack → B.get? b = some o
  up : sI.heap.UpToSlots s.heap
  fly : HandSPX.FlyingZ B (X.env :: X.outer) a (Zc cls d) s.heap
  new : H a = none
  os : s.os = sI.os
  bare : AllBare s.gens
section
variable {X : Cx} {pins : List (Addr × Obj)} {σ : L2.St} {H : Hp} {a : Addr} {cls : Value} {d : Option Addr} {B : Heap} {sI s : Shared} {D : Ends} {Wo : WX}
theorem Lnd.now (L : Lnd X pins σ H a cls d B sI s) : Inv X pins σ H s := L.inv.landed L.base L.fly.1 L.up L.os L.bare
end
end N
set_option Elab.async false
set_option linter.all false
set_option maxRecDepth 100000
set_option maxHeartbeats 4000000
set_option Elab.async false
set_option linter.all false
set_option maxRecDepth 100000
namespace N
open PySem PySem.Spec PyProof.Rows L2 PySem.SeqAt
def rNeE (K : PySem.W.Frag) : R2 := fun x y H Q => ∃ (a b : Addr) (xs : List V), x = .ref a ∧ y = .ref b ∧ SqL K H a xs ∧ SqL K H b [] ∧ Q (.bl (!xs.isEmpty)) H
def rEqE (K : PySem.W.Frag) : R2 := fun x y H Q => ∃ (a b : Addr) (xs : List V), x = .ref a ∧ y = .ref b ∧ SqL K H a xs ∧ SqL K H b [] ∧ Q (.bl xs.isEmpty) H
theorem op_neE {X : Cx} (hu' : X.A.units + 64 < cLine) : OpR X (compareOp .NotEq) (rNeE X.K) := by
  have hu : X.A.units < cLine := Nat.lt_of_le_of_lt (Nat.le_add_right _ _) hu'
  intro pins s σ H x y v u Q I rx ry h
  obtain ⟨a, b, xs, rfl, rfl, ha, hb, q⟩ := h
  cases rx
  cases ry
  obtain ⟨its, r1, p1, _⟩ := I.list ha
  obtain ⟨its2, r2, p2, _⟩ := I.list hb
  cases r2
  cases r1 with
  | nil =>
    have := RcNeAt.lists (e := fun _ => true) p1.isList p2.isList rfl hu (fun j h1 _ => absurd h1 (Nat.not_lt_zero _)) X.prog X.w (E := X.xe) (Q := EP X pins σ Q) ⟨.bl false, H, I, rfl, q⟩
    exact this
  | cons h t =>
    exact RcNeAt.lists_lengths p1.isList p2.isList (by simp) hu X.prog X.w (E := X.xe) (Q := EP X pins σ Q) ⟨.bl true, H, I, rfl, q⟩
theorem op_eqE {X : Cx} (hu' : X.A.units + 64 < cLine) : OpR X (compareOp .Eq) (rEqE X.K) := by
  have hu : X.A.units < cLine := Nat.lt_of_le_of_lt (Nat.le_add_right _ _) hu'
  intro pins s σ H x y v u Q I rx ry h
  obtain ⟨a, b, xs, rfl, rfl, ha, hb, q⟩ := h
  cases rx
  cases ry
  obtain ⟨its, r1, p1, _⟩ := I.list ha
  obtain ⟨its2, r2, p2, _⟩ := I.list hb
  cases r2
  cases r1 with
  | nil => exact eq_listAt (e := fun _ => true) p1.isList p2.isList rfl hu (fun j h1 _ => absurd h1 (Nat.not_lt_zero _)) ⟨.bl true, H, I, rfl, q⟩
  | cons h t => exact eq_list_lengthsAt p1.isList p2.isList (by simp) hu ⟨.bl false, H, I, rfl, q⟩
section
variable {F : FmKit} {T : Kx} {C H H' O O' : Hp} {G : Gm} {W W' : Om} {R : D → Om → Prop} {d e : D} {l m : List D} {te : TE} {t : TT} {tr : TA}
theorem den_empty {l : List D} {xs : List V} (kl : DenL F T H l xs) : xs.isEmpty = l.isEmpty := by
  have := kl.len
  cases l <;> cases xs <;> simp at this ⊢
theorem bo_neE (h1 : Vl W d l) (h2 : Vl W e []) (r : R (.bl (!l.isEmpty)) W) : Bo F T (rNeE T.K) d e W R := fun C H O di oc ow x y hx hy Q k => by
  obtain ⟨a, xs, ea, ha, ka⟩ := h1.sq ow di hx
  obtain ⟨b, ys, eb, hb, kb⟩ := h2.sq ow di hy
  have kb : ys = [] := kb
  subst kb
  refine ⟨a, b, xs, ea, eb, ha, hb, ?_⟩
  rw [den_empty ka]
  exact k _ W H O _ r (.refl di oc ow) rfl
theorem bo_eqE (h1 : Vl W d l) (h2 : Vl W e []) (r : R (.bl l.isEmpty) W) : Bo F T (rEqE T.K) d e W R := fun C H O di oc ow x y hx hy Q k => by
  obtain ⟨a, xs, ea, ha, ka⟩ := h1.sq ow di hx
  obtain ⟨b, ys, eb, hb, kb⟩ := h2.sq ow di hy
  have kb : ys = [] := kb
  subst kb
  refine ⟨a, b, xs, ea, eb, ha, hb, ?_⟩
  rw [den_empty ka]
  exact k _ W H O _ r (.refl di oc ow) rfl
end
end N
set_option Elab.async false
set_option linter.all false
set_option maxRecDepth 100000
namespace N
open PySem PySem.Spec PyProof.Rows L2
open C8 (Cal Met Mak InsC pe_c pe_mt pe_mt0 pe_mk)
section
variable {X : Cx} {k j : Nat} {x m : Str} {C : Addr} {sp : Sp} {e o : Expr} {es : List Expr} {t ta : TA} {p pos apos : Pos}
theorem kb1_of {K : PySem.W.Frag} {x qual : Str} {st : Stmt} {f : Addr} {fd : FuncData} {ps ks : List Str} {g : List Value → List Value → List Value} {gV : List V → List V → List V} (Fn : Fun K x qual st f fd)
    (h : ∀ (kV doc pm : Value) (an : Option Addr) (cdv ct u : Value) (ws : List Value), ws.length = ks.length → bindArgs (PySem.W.fnOf x qual (defArgs st) (defBody st) (defScope st) .none kV doc pm an cdv ct) ⟨[u], ks.zip ws⟩ = pure (ps.zip (g [u] ws)))
    (rel : ∀ {vs : List V} {us : List Value} {zs : List V} {ws : List Value}, Vals vs us → Vals zs ws → Vals (gV vs zs) (g us ws)) : KBn K fd ps 1 ks g gV := by
  obtain ⟨oc, od, kV, doc, pm, an, cdv, ct, osl, rfl, lk, hcd⟩ := Fn.ex
  refine ⟨fun s us ws _ h1 h2 => ?_, rel⟩
  obtain ⟨u, rfl⟩ : ∃ u, us = [u] := List.length_eq_one_iff.mp h1
  exact .of_eq (h kV doc pm an cdv ct u ws h2)
end
section
variable {F : FmKit} {T : Kx} {C H H' O O' : Hp} {G : Gm} {W W' : Om} {R : D → Om → Prop} {σ : L2.St} {d e : D} {l m : List D} {te ta tb tx : TE} {t : TT} {tr tk : TA} {S : FS}
/-- d.get(k, x) -/
theorem ev_dget2 (h : Ev F T ta G W fun d W1 => (∃ ps, Vd W1 d ps) ∧ Ev F T tb G W1 fun y W2 => Ev F T tx G W2 fun z W3 => ∃ ps k, Vd W3 d ps ∧ y = kD k ∧ R ((getG ps k).getD z) W3) : Ev F T (tDGet2 ta tb tx) G W R := fun C H O σ w Q q =>
  h C H O σ w _ fun d W1 H1 O1 x ⟨⟨ps0, hv0⟩, h1⟩ n1 k1 => by
    obtain ⟨a, kvs0, ex, ha0, _⟩ := hv0.at n1.dis n1.own k1
    refine ⟨a, ex, .inl ⟨kvs0, .inl ha0⟩, h1 C H1 O1 σ (w.step n1) _ fun y W2 H2 O2 yv h2 n2 k2 => h2 C H2 O2 σ ((w.step n1).step n2) _ fun z W3 H3 O3 zv ⟨ps, k, hv, ey, r⟩ n3 k3 => ?_⟩
    subst ey
    obtain ⟨a', kvs, ex', ha, e1, e2, kl⟩ := hv.at n3.dis n3.own ((k1.mono n2.ext).mono n3.ext)
    have k2 : yv = kV k := k2
    subst ex k2
    cases ex'
    refine ⟨valV kvs k, .inl ⟨kvs, k, .inl ha, rfl, rfl⟩, ?_⟩
    rcases getG_den (k := k) e1 kl with ⟨g1, g2⟩ | ⟨z', v, g1, g2, kz⟩
    · rw [g1] at r
      rw [g2]
      exact q _ W3 H3 O3 _ r ((n1.trans n2).trans n3) k3
    · rw [g1] at r
      rw [g2]
      exact q _ W3 H3 O3 _ r ((n1.trans n2).trans n3) kz
end
section
variable {F : FmKit} {T : Kx} {G : Gm} {W : Om} {R : D → Om → Prop}
/-- {k: e, ..}, frozen at once -/
theorem ev_dispF {trs : List (TE × TE)} (h : EvPs F T trs G W [] fun ps W' => ps.length ≤ 15 ∧ R (.dp (mergeG ps)) W') : Ev F T (tDisp trs) G W R := by
  have up : ∀ (trs : List (TE × TE)) (W : Om) (acc : List (Key × D)) (Y Z : List (Key × D) → Om → Prop), (∀ ps W', Y ps W' → Z ps W') → EvPs F T trs G W acc Y → EvPs F T trs G W acc Z := by
    intro trs
    induction trs with
    | nil => exact fun W acc Y Z i h => i _ _ h
    | cons t trs ih => exact fun W acc Y Z i h => Ev.imp h fun y W1 h1 => Ev.imp h1 fun z W2 ⟨k, e, h2⟩ => ⟨k, e, ih _ _ _ _ i h2⟩
  exact ev_fz (ev_disp (up _ _ _ _ _ (fun ps W' ⟨h1, h2⟩ => ⟨h1, fun p hp => ⟨p, _, W', _, rfl, List.Perm.refl _, .dct _ _, h2⟩⟩) h))
end
end N
set_option Elab.async false
set_option linter.all false
set_option maxRecDepth 100000
set_option maxHeartbeats 1000000
namespace PySem
open Sem (wp)
/-- a zip that stands, strict -/
abbrev StrictZip (hp : Heap) (z ins held : Addr) (v : Value) : Prop := hp.get? z = some { cls := .type "zip", data := .fields #[v, .bool false, .bool true, .ref ins, .ref held] }
section
variable {prog : Program} {w : World} {A : Around} {E : Value → Shared → Prop} {s : Shared} {z ins held j1 j2 : Addr} {f1 f2 : List Addr} {n i : Nat} {P1 P2 P : Nat → Value → Prop} {S1 S2 St : Nat → Heap → Prop} {u1 u2 : Value} {it : Addr} {fp : List Addr}
theorem orEnd_more {Q : Option Value → Shared → Prop} (D : Draws prog w A it fp n P St) (hi : i < n) (st : St i s.heap) (q : ∀ x hp tk, P i x → St (i + 1) hp → Heap.SameBut it s.heap hp → Q (some x) { s with heap := hp, toks := tk }) :
    wpAny (model prog w) A (Builtin.SmallTypes.nextOrEnd (.ref it)) Q E s :=
  wpAny_bind (wpAny_attempt (D.item i s _ _ hi st fun x hp tk a b c => wpAny_pure (q x hp tk a b c)))
theorem orEnd_none {Q : Option Value → Shared → Prop} (D : Draws prog w A it fp n P St) (st : St n s.heap) (q : ∀ hp, Heap.ExtBut it s.heap hp → Q none { s with heap := hp }) :
    wpAny (model prog w) A (Builtin.SmallTypes.nextOrEnd (.ref it)) Q E s :=
  wpAny_bind (wpAny_attempt (D.done s _ _ st fun hp e k ⟨o, ho, hc⟩ => wpAny_bind (wpAny_isInstance (T := "StopIteration") (b := true) ⟨o, ho, hc⟩ isSubtype_stop (wpAny_pure (q hp k)))))
theorem strict_more {Q : Value → Shared → Prop} (S : ZipSep2 z ins held j1 j2 f1 f2) (D1 : Draws prog w A j1 f1 n P1 S1) (D2 : Draws prog w A j2 f2 n P2 S2)
    (hz : StrictZip s.heap z ins held .none) (hI : IsTupOf2 s.heap ins (.ref j1) (.ref j2)) (hO : IsTupOf2 s.heap held u1 u2) (k1 : S1 i s.heap) (k2 : S2 i s.heap) (hi : i < n)
    (q : ∀ x y hp tk, P1 i x → P2 i y → StrictZip hp z ins held (rawInt s.heap.objs.size) → IsTupOf2 hp held x y → S1 (i + 1) hp → S2 (i + 1) hp → IsTupOf2 hp s.heap.objs.size x y → hp.objs.size = s.heap.objs.size + 1 →
      (∀ c o, c ∉ [z, held, j1, j2] → s.heap.get? c = some o → hp.get? c = some o) → Q (.ref s.heap.objs.size) { s with heap := hp, toks := tk }) :
    wpAny (model prog w) A (Builtin.«zip.__next__» ⟨[.ref z], []⟩) (fun fin s' => ∃ v, fin = .done (.ret v) ∧ Q v s') E s := by
  obtain ⟨h0, g, d, t0, os⟩ := s
  simp only at hz hI hO k1 k2 q
  have af : ∀ {k : Nat} {x : Value} {Q : Value → Shared → Prop} {E : Value → Shared → Prop}, (#[Value.none, .bool false, .bool true, .ref ins, .ref held] : Array Value)[k]? = some x → Q x ⟨h0, g, d, t0, os⟩ → wpAny (model prog w) A (field (.ref z) k) Q E ⟨h0, g, d, t0, os⟩ := fun e q => wpAny_field hz rfl e q
  have ast : ∀ {Q : Unit → Shared → Prop} {E : Value → Shared → Prop}, (∀ h1, StrictZip h1 z ins held .ellipsis → Heap.SameBut z h0 h1 → Q () ⟨h1, g, d, t0, os⟩) → wpAny (model prog w) A (setField (.ref z) 0 .ellipsis) Q E ⟨h0, g, d, t0, os⟩ := fun q => wpAny_setField_rec hz (by simp) fun h1 a b => q h1 a b
  wp_walk using wpAny_seqItems hI rfl, ast, wpAny_onRaise
  intro h1 z1 b1
  have r1 : ∀ {Q : Option Value → Shared → Prop} {E : Value → Shared → Prop}, (∀ x hp tk, P1 i x → S1 (i + 1) hp → Heap.SameBut j1 h1 hp → Q (some x) ⟨hp, g, d, tk, os⟩) → wpAny (model prog w) A (Builtin.SmallTypes.nextOrEnd (.ref j1)) Q E ⟨h1, g, d, t0, os⟩ := fun q => orEnd_more D1 hi (D1.over k1 b1 S.zf1) q
  wp_walk using wpAny_onRaise, r1
  intro x h2 t2 px k1 b2
  have o2 : IsTupOf2 h2 held u1 u2 := b2.extBut _ _ S.Ti1 (b1.extBut _ _ S.TOz hO)
  have r2 : ∀ {k : Nat} {x : Value} {Q : Unit → Shared → Prop} {E : Value → Shared → Prop}, (∀ hp, hp.get? held = some { cls := .type "tuple", data := .seq ((#[u1, u2] : Array Value).setIfInBounds k x) } → Heap.SameBut held h2 hp → Q () ⟨hp, g, d, t2, os⟩) → wpAny (model prog w) A (updateSeq held (·.setIfInBounds k x)) Q E ⟨h2, g, d, t2, os⟩ := fun q => updateSeq_IsTupOf2 o2 q
  wp_walk using wpAny_seqItems o2 rfl, r2
  intro h3 o3 b3
  replace o3 : IsTupOf2 h3 held x u2 := o3
  have r3 : ∀ {Q : Option Value → Shared → Prop} {E : Value → Shared → Prop}, (∀ x hp tk, P2 i x → S2 (i + 1) hp → Heap.SameBut j2 h3 hp → Q (some x) ⟨hp, g, d, tk, os⟩) → wpAny (model prog w) A (Builtin.SmallTypes.nextOrEnd (.ref j2)) Q E ⟨h3, g, d, t2, os⟩ := fun q => orEnd_more D2 hi (D2.over (D2.over (D2.over k2 b1 S.zf2) b2 S.sep1_2) b3 S.Tf2) q
  wp_walk using wpAny_onRaise, r3
  intro y h4 t4 py k2 b4
  have o4 : IsTupOf2 h4 held x u2 := b4.extBut _ _ S.Ti2 o3
  have r4 : ∀ {k : Nat} {v : Value} {Q : Unit → Shared → Prop} {E : Value → Shared → Prop}, (∀ hp, hp.get? held = some { cls := .type "tuple", data := .seq ((#[x, u2] : Array Value).setIfInBounds k v) } → Heap.SameBut held h4 hp → Q () ⟨hp, g, d, t4, os⟩) → wpAny (model prog w) A (updateSeq held (·.setIfInBounds k v)) Q E ⟨h4, g, d, t4, os⟩ := fun q => updateSeq_IsTupOf2 o4 q
  wp_walk using wpAny_seqItems o4 rfl, r4
  intro h5 o5 b5
  replace o5 : IsTupOf2 h5 held x y := o5
  have sz : h5.objs.size = h0.objs.size := by rw [b5.1, b4.1, b3.1, b2.1, b1.1]
  have z5 : StrictZip h5 z ins held .ellipsis := b5.extBut _ _ S.TOz.symm (b4.extBut _ _ S.zi2 (b3.extBut _ _ S.TOz.symm (b2.extBut _ _ S.zi1 z1)))
  have lt : z < h5.objs.size := Heap.lt_size z5
  have z6 : StrictZip (h5.push { cls := .type "tuple", data := .seq #[x, y] }) z ins held .ellipsis := Heap.get?_push_of_some _ z5
  have r6 : ∀ {hp : Heap} {f : Value} {v : Value} {Q : Unit → Shared → Prop} {E : Value → Shared → Prop}, StrictZip hp z ins held f → (∀ hq, StrictZip hq z ins held v → Heap.SameBut z hp hq → Q () ⟨hq, g, d, t4, os⟩) → wpAny (model prog w) A (setField (.ref z) 0 v) Q E ⟨hp, g, d, t4, os⟩ := fun a q => wpAny_setField_rec a (by simp) fun hq b c => q hq b c
  have r7 : ∀ {hp : Heap} {f : Value} {Q : Unit → Shared → Prop} {E : Value → Shared → Prop}, StrictZip hp z ins held f → (∀ hq, StrictZip hq z ins held f → Heap.SameBut z hp hq → Q () ⟨hq, g, d, t4, os⟩) → wpAny (model prog w) A (setField (.ref z) 1 (.bool false)) Q E ⟨hp, g, d, t4, os⟩ := fun a q => wpAny_setField_rec a (by simp) fun hq b c => q hq b c
  wp_walk using wpAny_seqItems o5 rfl, r6 z6
  intro h7 z7 b7
  refine r7 z7 fun h8 z8 b8 => wpAny_pure ⟨_, rfl, ?_⟩
  have up : ∀ c o, c ≠ z → h5.get? c = some o → h8.get? c = some o := fun c o ne e => b8.extBut _ _ ne (b7.extBut _ _ ne (Heap.get?_push_of_some _ e))
  have new : IsTupOf2 h8 h5.objs.size x y := b8.extBut _ _ (Nat.ne_of_gt lt) (b7.extBut _ _ (Nat.ne_of_gt lt) (Heap.get?_push_size _ rfl))
  have e8 : h8.objs.size = h5.objs.size + 1 := by rw [b8.1, b7.1, Heap.size_push]
  rw [sz] at z8 new e8
  have a1 : S1 (i + 1) h8 := D1.frame _ _ _ (D1.over (D1.over (D1.over k1 b3 S.Tf1) b4 S.sep2_1) b5 S.Tf1) fun b hb o e => up b o (fun q => S.zf1 (q ▸ hb)) e
  have a2 : S2 (i + 1) h8 := D2.frame _ _ _ (D2.over k2 b5 S.Tf2) fun b hb o e => up b o (fun q => S.zf2 (q ▸ hb)) e
  rw [sz]
  refine q x y h8 t4 px py z8 (up _ _ S.TOz o5) a1 a2 new e8 fun c o nc e => ?_
  simp only [List.mem_cons, List.not_mem_nil, or_false, not_or] at nc
  obtain ⟨cz, cT, c1, c2⟩ := nc
  exact up c o cz (b5.extBut _ _ cT (b4.extBut _ _ c2 (b3.extBut _ _ cT (b2.extBut _ _ c1 (b1.extBut _ _ cz e)))))
theorem strict_none {Q : Fin → Shared → Prop} (hh : A.handled = none) (S : ZipSep2 z ins held j1 j2 f1 f2) (D1 : Draws prog w A j1 f1 n P1 S1) (D2 : Draws prog w A j2 f2 n P2 S2)
    (hz : StrictZip s.heap z ins held .none) (hI : IsTupOf2 s.heap ins (.ref j1) (.ref j2)) (k1 : S1 n s.heap) (k2 : S2 n s.heap)
    (q : ∀ hp tk e, (∀ c o, c ∉ [z, held, j1, j2] → s.heap.get? c = some o → hp.get? c = some o) → (∃ o, hp.get? e = some o ∧ o.cls = .type "StopIteration") → E (.ref e) { s with heap := hp, toks := tk }) :
    wpAny (model prog w) A (Builtin.«zip.__next__» ⟨[.ref z], []⟩) Q E s := by
  obtain ⟨h0, g, d, t0, os⟩ := s
  simp only at hz hI k1 k2 q
  have ast : ∀ {hp : Heap} {v f : Value} {Q : Unit → Shared → Prop} {E : Value → Shared → Prop}, StrictZip hp z ins held f → (∀ h1, StrictZip h1 z ins held v → Heap.SameBut z hp h1 → Q () ⟨h1, g, d, t0, os⟩) → wpAny (model prog w) A (setField (.ref z) 0 v) Q E ⟨hp, g, d, t0, os⟩ := fun a q => wpAny_setField_rec a (by simp) fun h1 a b => q h1 a b
  wp_walk using wpAny_seqItems hI rfl, ast hz, wpAny_onRaise
  intro h1 z1 b1
  have r1 : ∀ {Q : Option Value → Shared → Prop} {E : Value → Shared → Prop}, (∀ hp, Heap.ExtBut j1 h1 hp → Q none ⟨hp, g, d, t0, os⟩) → wpAny (model prog w) A (Builtin.SmallTypes.nextOrEnd (.ref j1)) Q E ⟨h1, g, d, t0, os⟩ := fun q => orEnd_none D1 (D1.over k1 b1 S.zf1) q
  wp_walk using wpAny_onRaise, r1
  intro h2 b2
  have z2 : StrictZip h2 z ins held .ellipsis := b2 _ _ S.zi1 z1
  wp_walk using ast z2
  intro h3 z3 b3
  have r2 : ∀ {Q : Option Value → Shared → Prop} {E : Value → Shared → Prop}, (∀ hp, Heap.ExtBut j2 h3 hp → Q none ⟨hp, g, d, t0, os⟩) → wpAny (model prog w) A (Builtin.SmallTypes.nextOrEnd (.ref j2)) Q E ⟨h3, g, d, t0, os⟩ := fun q => orEnd_none D2 (D2.over (D2.frame _ _ _ (D2.over k2 b1 S.zf2) fun b hb o e => b2 b o (fun x => S.sep1_2 (x ▸ hb)) e) b3 S.zf2) q
  wp_walk using r2
  intro h4 b4
  wp_walk
  simp only [raiseNew]
  refine wpAny_bind (wpAny_handled ?_)
  rw [hh]
  refine wpAny_bind (wpAny_pure (wpAny_throw ?_))
  refine q _ _ _ (fun c o nc e => ?_) ⟨_, Heap.get?_push_size _ rfl, rfl⟩
  simp only [List.mem_cons, List.not_mem_nil, or_false, not_or] at nc
  obtain ⟨cz, cT, c1, c2⟩ := nc
  exact Heap.get?_push_of_some _ (Heap.get?_push_of_some _ (b4 _ _ c2 (b3.extBut _ _ cz (b2 _ _ c1 (b1.extBut _ _ cz e)))))
theorem next_more {Q : Option Value → Shared → Prop} (S : ZipSep2 z ins held j1 j2 f1 f2) (D1 : Draws prog w A.in1 j1 f1 n P1 S1) (D2 : Draws prog w A.in1 j2 f2 n P2 S2)
    (hz : StrictZip s.heap z ins held .none) (hI : IsTupOf2 s.heap ins (.ref j1) (.ref j2)) (hO : IsTupOf2 s.heap held u1 u2) (k1 : S1 i s.heap) (k2 : S2 i s.heap) (hi : i < n)
    (q : ∀ x y hp tk, P1 i x → P2 i y → StrictZip hp z ins held (rawInt s.heap.objs.size) → IsTupOf2 hp held x y → S1 (i + 1) hp → S2 (i + 1) hp → IsTupOf2 hp s.heap.objs.size x y → hp.objs.size = s.heap.objs.size + 1 →
      (∀ c o, c ∉ [z, held, j1, j2] → s.heap.get? c = some o → hp.get? c = some o) → Q (some (.ref s.heap.objs.size)) { s with heap := hp, toks := tk }) : wpAny (model prog w) A (pyNext (.ref z)) Q E s :=
  have ty : s.TypeIs (.ref z) "zip" := ⟨_, hz, rfl⟩
  wpAny_bind (wpAny_attempt (wpAny_callSpecial?_slot (name := Str.ofString "__next__") ty F.slot_zip_next (wpAny_call_entry F.slot_zip_next ty F.entry_zip_next
    (strict_more S D1 D2 hz hI hO k1 k2 hi fun x y hp tk a b c d e f g h l => wpAny_pure (q x y hp tk a b c d e f g h l)) (F.args_zip_next_1 _))))
theorem next_none {Q : Option Value → Shared → Prop} (hh : A.handled = none) (S : ZipSep2 z ins held j1 j2 f1 f2) (D1 : Draws prog w A.in1 j1 f1 n P1 S1) (D2 : Draws prog w A.in1 j2 f2 n P2 S2)
    (hz : StrictZip s.heap z ins held .none) (hI : IsTupOf2 s.heap ins (.ref j1) (.ref j2)) (k1 : S1 n s.heap) (k2 : S2 n s.heap)
    (q : ∀ hp tk, (∀ c o, c ∉ [z, held, j1, j2] → s.heap.get? c = some o → hp.get? c = some o) → Q none { s with heap := hp, toks := tk }) : wpAny (model prog w) A (pyNext (.ref z)) Q E s :=
  have ty : s.TypeIs (.ref z) "zip" := ⟨_, hz, rfl⟩
  wpAny_bind (wpAny_attempt (wpAny_callSpecial?_slot (name := Str.ofString "__next__") ty F.slot_zip_next (wpAny_call_entry F.slot_zip_next ty F.entry_zip_next
    (strict_none (show A.in1.handled = none from hh) S D1 D2 hz hI k1 k2 fun hp tk e k ⟨o, ho, hc⟩ => wpAny_bind (wpAny_isInstance (T := "StopIteration") (b := true) ⟨o, ho, hc⟩ isSubtype_stop (wpAny_pure (q _ _ k)))) (F.args_zip_next_1 _))))
theorem go_strict {elts : List Expr} {kk : Nat} {pos : Pos} {T : Addr} {Q : Unit → Shared → Prop} (hz : StrictZip s.heap z ins held (rawInt T)) (q : ∀ hp, StrictZip hp z ins held .none → Heap.SameBut z s.heap hp → Q () { s with heap := hp }) :
    wpAny (model prog w) A (letOwnedTupleGo (.Tuple elts kk pos) (.ref z) (.ref T)) Q E s := by
  unfold letOwnedTupleGo
  refine wpAny_bind (wpAny_load hz ?_)
  refine wpAny_ite_true (by simp) ?_
  exact wpAny_bind (wpAny_rule (wpAny_setField_rec hz (by simp) fun hp a b => q hp a b))
theorem iter_strict {v : Value} {Q : Value → Shared → Prop} (hz : StrictZip s.heap z ins held v) (q : Q (.ref z) s) : wpAny (model prog w) A (pyIter (.ref z)) Q E s :=
  have ty : s.TypeIs (.ref z) "zip" := ⟨_, hz, rfl⟩
  wpAny_pyIter_slot ty F.slot_zip_iter (wpAny_call_entry F.slot_zip_iter ty F.entry_zip_iter (wpAny_pure ⟨_, rfl, "zip", _, ty, F.slot_zip_next.lookup, q⟩) (F.args_zip_iter_1 _))
end
end PySem
set_option Elab.async false
set_option linter.all false
set_option maxRecDepth 100000
set_option maxHeartbeats 1000000
namespace N
open PySem PySem.Spec PyProof.Rows L2
open C8 (Cal Met Mak InsC pe_c pe_mt pe_mt0 pe_mk)
inductive Kd
  | lst (a : Addr)
  | tup (a : Addr)
  | txt (x : Str)
def Kd.v : Kd → V
  | .lst a => .ref a
  | .tup a => .ref a
  | .txt x => .str x
def Kd.src (K : PySem.W.Frag) (H : Hp) : Kd → List V → Prop
  | .lst a, xs => SqL K H a xs
  | .tup a, xs => SqT K H a xs
  | .txt x, xs => xs = x.cps.toList.map fun c => V.str ⟨#[c]⟩
def Kd.at (k : Kd) (t : Tok) (it : Addr) (i : Nat) (h : Heap) : Prop := match k with
  | .lst a => h.IsListIter it a i
  | .tup a => h.IsTupleIter it a i
  | .txt x => h.IsStrIter it (strIterType x) x t i
def Kd.low (k : Kd) (b : Nat) : Prop := match k with
  | .lst a => a < b
  | .tup a => a < b
  | .txt _ => True
theorem Kd.keep {k : Kd} {t : Tok} {it : Addr} {i : Nat} {h h' : Heap} (s : k.at t it i h) (e : ∀ o, h.get? it = some o → h'.get? it = some o) : k.at t it i h' := by
  cases k with
  | lst a => exact Heap.IsListIter.at s e
  | tup a => exact Heap.IsTupleIter.at s e
  | txt x =>
    obtain ⟨o, ho, r⟩ := s
    exact ⟨o, e o ho, r⟩
theorem Kd.obj {k : Kd} {t : Tok} {it : Addr} {i : Nat} {h : Heap} (s : k.at t it i h) : ∃ o, h.get? it = some o ∧ ∀ v, o.data ≠ .cell v := by
  cases k with
  | lst a =>
    obtain ⟨o, e, _, d⟩ := s
    exact ⟨o, e, fun v q => by rw [d] at q; cases q⟩
  | tup a =>
    obtain ⟨o, e, _, d⟩ := s
    exact ⟨o, e, fun v q => by rw [d] at q; cases q⟩
  | txt x =>
    obtain ⟨o, e, _, d⟩ := s
    exact ⟨o, e, fun v q => by rw [d] at q; cases q⟩
section
variable {X : Cx} {pins : List (Addr × Obj)} {σ : L2.St} {H : Hp} {s : Shared}
theorem Kd.inj {k : Kd} {xs ys : List V} (I : Inv X pins σ H s) (h : k.src X.K H xs) (h' : k.src X.K H ys) : xs = ys := by
  cases k with
  | lst a => exact I.list_inj h h'
  | tup a => exact I.tuple_inj h h'
  | txt x => exact Eq.trans h (Eq.symm h')
/-- the iterator over a source, as it stands now -/
theorem Kd.draws {k : Kd} {t : Tok} {it : Addr} {xs : List V} (I : Inv X pins σ H s) (hc : X.calm = true) (hs : k.src X.K H xs) {b : Nat} (hl : k.low b) (hb : b ≤ it) :
    ∃ (fp : List Addr) (P : Nat → Value → Prop) (St : Nat → Heap → Prop), Draws X.prog X.w X.A.in1 it fp xs.length P St ∧ it ∈ fp ∧ (∀ c ∈ fp, c = it ∨ c < b) ∧ (∀ i, k.at t it i s.heap → St i s.heap) ∧ (∀ i h, St i h → k.at t it i h) ∧ ∀ i v, P i v → ∃ x, xs[i]? = some x ∧ RelV x v := by
  have hh : X.A.in1.handled = none := I.ok.hd hc
  cases k with
  | lst a =>
    obtain ⟨its, rv, p, _⟩ := I.list hs
    have ne : a ≠ it := Nat.ne_of_lt (Nat.lt_of_lt_of_le hl hb)
    have D := Draws.list (prog := X.prog) (w := X.w) hh it a ne its.toArray
    have e : its.toArray.size = xs.length := by simp [rv.length]
    rw [e] at D
    refine ⟨_, _, _, D, by simp, fun c hc => ?_, fun i st => ⟨st, p.isList⟩, fun i h st => st.1, fun i v h => ?_⟩
    · simp at hc
      rcases hc with e | e
      · exact .inl e
      · subst e
        exact .inr hl
    · have h : its[i]? = some v := by simpa using h
      have hi : i < xs.length := by
        have := (List.getElem?_eq_some_iff.mp h).1
        rw [rv.length]
        exact this
      obtain ⟨u, hu, ru⟩ := rv.get (List.getElem?_eq_getElem hi)
      rw [h] at hu
      cases hu
      exact ⟨_, List.getElem?_eq_getElem hi, ru⟩
  | tup a =>
    obtain ⟨its, rv, p, _⟩ := I.tuple hs
    have ne : a ≠ it := Nat.ne_of_lt (Nat.lt_of_lt_of_le hl hb)
    have D := Draws.tuple (prog := X.prog) (w := X.w) hh it a ne its.toArray
    have e : its.toArray.size = xs.length := by simp [rv.length]
    rw [e] at D
    refine ⟨_, _, _, D, by simp, fun c hc => ?_, fun i st => ⟨st, p⟩, fun i h st => st.1, fun i v h => ?_⟩
    · simp at hc
      rcases hc with e | e
      · exact .inl e
      · subst e
        exact .inr hl
    · have h : its[i]? = some v := by simpa using h
      have hi : i < xs.length := by
        have := (List.getElem?_eq_some_iff.mp h).1
        rw [rv.length]
        exact this
      obtain ⟨u, hu, ru⟩ := rv.get (List.getElem?_eq_getElem hi)
      rw [h] at hu
      cases hu
      exact ⟨_, List.getElem?_eq_getElem hi, ru⟩
  | txt x =>
    have hs : xs = x.cps.toList.map fun c => V.str ⟨#[c]⟩ := hs
    subst hs
    have D := Draws.text (prog := X.prog) (w := X.w) hh it x t
    have e : (x.cps.toList.map fun c => V.str ⟨#[c]⟩).length = x.cps.size := by simp
    rw [e]
    refine ⟨_, _, _, D, by simp, fun c hc => .inl (by simpa using hc), fun i st => st, fun i h st => st, fun i v ⟨c, u, h1, h2⟩ => ?_⟩
    refine ⟨.str ⟨#[c]⟩, ?_, u, h2⟩
    rw [List.getElem?_map]
    have : x.cps.toList[i]? = some c := by simpa using h1
    rw [this]
    rfl
end
def ZAt (strict : Bool) (h : Heap) (z ins held : Addr) (v : Value) : Prop := if strict then StrictZip h z ins held v else IsZip h z ins held v
def ItzK (K : PySem.W.Frag) (k1 k2 : Kd) (strict : Bool) : It :=
  ⟨fun i H => ∃ xs ys : List V, k1.src K H xs ∧ k2.src K H ys ∧ i < xs.length ∧ i < ys.length ∧ (strict = true → xs.length = ys.length),
    fun i H v H' => ∃ T x y, v = .ref T ∧ H T = none ∧ H' = upd H T (.tup [x, y]) ∧ (∀ xs, k1.src K H xs → xs[i]? = some x) ∧ ∀ ys, k2.src K H ys → ys[i]? = some y,
    fun i H => ∃ xs ys : List V, k1.src K H xs ∧ k2.src K H ys ∧ i ≤ xs.length ∧ i ≤ ys.length ∧ (i = xs.length ∨ i = ys.length) ∧ (strict = true → xs.length = ys.length)⟩
theorem ne_add {b c d : Nat} (h : c ≠ d) : b + c ≠ b + d := by omega
theorem zno {b k : Nat} (h : k ≠ 0) (_ : 0 ≠ k) : ¬ (b + k = b ∨ b + k < b) := by omega
theorem zno2 {b k : Nat} (h : k ≠ 1) : ¬ (b + k = b + 1 ∨ b + k < b) := by omega
theorem zsep {b : Nat} {f1 f2 : List Addr} (m1 : b ∈ f1) (m2 : b + 1 ∈ f2) (h1 : ∀ c ∈ f1, c = b ∨ c < b) (h2 : ∀ c ∈ f2, c = b + 1 ∨ c < b) : ZipSep2 (b + 4) (b + 2) (b + 3) b (b + 1) f1 f2 where
  TIz := ne_add (by decide)
  TOz := ne_add (by decide)
  TITO := ne_add (by decide)
  TIi1 := ne_add (c := 2) (d := 0) (by decide)
  mem1 := m1
  zf1 := fun h => zno (by decide) (by decide) (h1 _ h)
  Tf1 := fun h => zno (by decide) (by decide) (h1 _ h)
  TIi2 := ne_add (by decide)
  mem2 := m2
  zf2 := fun h => zno2 (by decide) (h2 _ h)
  Tf2 := fun h => zno2 (by decide) (h2 _ h)
  sep1_2 := fun h => zno2 (k := 0) (by decide) (h2 _ h)
  sep2_1 := fun h => zno (by decide) (by decide) (h1 _ h)
theorem turn_zipK {P : Program} {w : World} {K : PySem.W.Frag} {elts : List Expr} {kk : Nat} {tpos : Pos} {k1 k2 : Kd} {u1 u2 : Tok} {strict : Bool} {b : Nat} (l1 : k1.low b) (l2 : k2.low b) :
    Turn P w K (.Tuple elts kk tpos) (ItzK K k1 k2 strict) [b + 4, b + 2, b + 3, b, b + 1] (b + 4) (fun i h => ZAt strict h (b + 4) (b + 2) (b + 3) .none ∧ IsTupOf2 h (b + 2) (.ref b) (.ref (b + 1)) ∧ (∃ u v, IsTupOf2 h (b + 3) u v) ∧ k1.at u1 b i h ∧ k2.at u2 (b + 1) i h) where
  mem := by simp
  obj := fun i h st c hc => by
    obtain ⟨hz, hI, ⟨x, y, hO⟩, s1, s2⟩ := st
    simp only [List.mem_cons, List.not_mem_nil, or_false] at hc
    rcases hc with rfl | rfl | rfl | rfl | rfl
    · cases strict
      · exact ⟨_, hz, fun v q => nomatch q⟩
      · exact ⟨_, hz, fun v q => nomatch q⟩
    · exact ⟨_, hI, fun v q => nomatch q⟩
    · exact ⟨_, hO, fun v q => nomatch q⟩
    · exact Kd.obj s1
    · exact Kd.obj s2
  keep := fun i h h' st k => by
    obtain ⟨hz, hI, ⟨x, y, hO⟩, s1, s2⟩ := st
    refine ⟨?_, k _ (by simp) _ hI, ⟨x, y, k _ (by simp) _ hO⟩, Kd.keep s1 fun o e => k _ (by simp) o e, Kd.keep s2 fun o e => k _ (by simp) o e⟩
    cases strict
    · exact k (b + 4) (by simp) _ hz
    · exact k (b + 4) (by simp) _ hz
  item := by
    intro X hP hw hK hc i pins s σ H E I hf st hg
    subst hP hw hK
    obtain ⟨hz, hI, ⟨x0, y0, hO⟩, s1, s2⟩ := st
    obtain ⟨xs, ys, hx, hy, i1, i2, hst⟩ := hg
    obtain ⟨f1, P1, S1, D1, m1, b1, t1, o1, v1⟩ := Kd.draws (t := u1) (it := b) I hc hx l1 (Nat.le_refl _)
    obtain ⟨f2, P2, S2, D2, m2, b2, t2, o2, v2⟩ := Kd.draws (t := u2) (it := b + 1) I hc hy l2 (Nat.le_succ _)
    have S := zsep m1 m2 b1 b2
    have lt : b + 4 < s.heap.objs.size := by cases strict <;> exact Heap.lt_size hz
    have fin : ∀ (x y : Value) (h' h2 : Heap) (tk : Tok), P1 i x → P2 i y → ZAt strict h2 (b + 4) (b + 2) (b + 3) .none → Heap.SameBut (b + 4) h' h2 → IsTupOf2 h' (b + 3) x y → S1 (i + 1) h' → S2 (i + 1) h' → IsTupOf2 h' s.heap.objs.size x y →
        (∀ c o, c ≠ b + 4 → c ≠ b + 3 → c ≠ b → c ≠ b + 1 → s.heap.get? c = some o → h'.get? c = some o) →
        ∃ (v : V) (H' : Hp), Inv X pins σ H' { s with heap := h2, toks := tk } ∧ RelV v (.ref s.heap.objs.size) ∧ (ItzK X.K k1 k2 strict).yld i H v H' ∧
          (ZAt strict h2 (b + 4) (b + 2) (b + 3) .none ∧ IsTupOf2 h2 (b + 2) (.ref b) (.ref (b + 1)) ∧ (∃ u v, IsTupOf2 h2 (b + 3) u v) ∧ k1.at u1 b (i + 1) h2 ∧ k2.at u2 (b + 1) (i + 1) h2) ∧ ∀ c ∈ [b + 4, b + 2, b + 3, b, b + 1], H' c = none := by
      intro x y h' h2 tk px py z2 sb o' a1 a2 new kp
      obtain ⟨u, gu, ru⟩ := v1 i x px
      obtain ⟨v, gv, rv⟩ := v2 i y py
      have up : ∀ c o, c ≠ b + 4 → h'.get? c = some o → h2.get? c = some o := fun c o ne e => (sb.2 c ne).trans e
      have new2 : IsTupOf2 h2 s.heap.objs.size x y := up _ _ (Nat.ne_of_gt lt) new
      have ok : ObjOk X.prog X.w (upd H s.heap.objs.size (.tup [u, v])) h2 s.heap.objs.size (.tup [u, v]) :=
        ⟨by show 2 ≤ sizeLine; decide, [x, y], .cons ru (.cons rv .nil), ⟨_, new2, rfl, _, rfl⟩⟩
      have I1 : Inv X pins σ (upd H s.heap.objs.size (.tup [u, v])) { s with heap := h2, toks := tk } :=
        I.turnedNew (t' := tk) (ch := [b + 4, b + 2, b + 3, b, b + 1]) (fun c o hb q => up c o (fun q' => hb (by simp [q'])) (kp c o (fun q' => hb (by simp [q'])) (fun q' => hb (by simp [q'])) (fun q' => hb (by simp [q'])) (fun q' => hb (by simp [q'])) q)) hf (Nat.le_refl _) ok
      refine ⟨.ref s.heap.objs.size, _, I1, rfl, ⟨_, u, v, rfl, I.hok.fresh (Nat.le_refl _), rfl, fun l hl => by rw [Kd.inj I hl hx]; exact gu, fun l hl => by rw [Kd.inj I hl hy]; exact gv⟩, ⟨z2, ?_, ⟨x, y, up _ _ (ne_add (by decide)) o'⟩, ?_, ?_⟩, fun c hcm => ?_⟩
      · exact up _ _ (ne_add (by decide)) (kp _ _ (ne_add (by decide)) (ne_add (by decide)) (ne_add (c := 2) (d := 0) (by decide)) (ne_add (by decide)) hI)
      · exact Kd.keep (o1 _ _ a1) fun o e => up _ _ (ne_add (c := 0) (d := 4) (by decide)) e
      · exact Kd.keep (o2 _ _ a2) fun o e => up _ _ (ne_add (by decide)) e
      · have hlt : c < s.heap.objs.size := by
          simp only [List.mem_cons, List.not_mem_nil, or_false] at hcm
          have lt : (b : Nat) + 4 < s.heap.objs.size := lt
          rcases hcm with rfl | rfl | rfl | rfl | rfl
          · exact lt
          · exact Nat.lt_trans (Nat.add_lt_add_left (by decide) b) lt
          · exact Nat.lt_trans (Nat.add_lt_add_left (by decide) b) lt
          · exact Nat.lt_of_le_of_lt (Nat.le_add_right _ 4) lt
          · exact Nat.lt_trans (Nat.add_lt_add_left (by decide) b) lt
        rw [upd_ne (Nat.ne_of_lt hlt)]
        exact (hf c hcm).1
    cases strict with
    | false =>
      refine wpAny_pyNext_zipD2_item S D1 D2 hz hI hO (t1 _ s1) (t2 _ s2) i1 i2 fun x y h' tk px py z' o' a1 a2 new _ kp => ?_
      exact ⟨_, rfl, wpAny_letOwnedTupleGo_zip (s := { s with heap := h', toks := tk }) z' fun h2 z2 sb => fin x y h' h2 tk px py z2 sb o' a1 a2 new kp⟩
    | true =>
      have e := hst rfl
      rw [← e] at D2
      refine next_more S D1 D2 hz hI hO (t1 _ s1) (t2 _ s2) i1 fun x y h' tk px py z' o' a1 a2 new _ kp => ?_
      exact ⟨_, rfl, go_strict (s := { s with heap := h', toks := tk }) z' fun h2 z2 sb => fin x y h' h2 tk px py z2 sb o' a1 a2 new fun c o c1 c2 c3 c4 q => kp c o (by simp only [List.mem_cons, List.not_mem_nil, or_false, not_or]; exact ⟨c1, c2, c3, c4⟩) q⟩
  done := by
    intro X hP hw hK hc i pins s σ H E I hf st hg
    subst hP hw hK
    obtain ⟨hz, hI, ⟨x0, y0, hO⟩, s1, s2⟩ := st
    obtain ⟨xs, ys, hx, hy, i1, i2, he, hst⟩ := hg
    obtain ⟨f1, P1, S1, D1, m1, b1, t1, o1, v1⟩ := Kd.draws (t := u1) (it := b) I hc hx l1 (Nat.le_refl _)
    obtain ⟨f2, P2, S2, D2, m2, b2, t2, o2, v2⟩ := Kd.draws (t := u2) (it := b + 1) I hc hy l2 (Nat.le_succ _)
    have S := zsep m1 m2 b1 b2
    cases strict with
    | false => exact wpAny_pyNext_zipD2_end S D1 D2 hz hI hO (t1 _ s1) (t2 _ s2) i1 i2 he fun h' tk k => ⟨rfl, I.turnedL (t' := tk) (ch := [b + 4, b + 2, b + 3, b, b + 1]) (fun c o hb q =>
        k c o (fun q' => hb (by simp [q'])) (fun q' => hb (by simp [q'])) (fun q' => hb (by simp [q'])) (fun q' => hb (by simp [q'])) q) hf⟩
    | true =>
      have e := hst rfl
      have ei : i = xs.length := by omega
      subst ei
      rw [← e] at D2
      exact next_none (I.ok.hd hc) S D1 D2 hz hI (t1 _ s1) (t2 _ s2) fun h' tk k => ⟨rfl, I.turnedL (t' := tk) (ch := [b + 4, b + 2, b + 3, b, b + 1]) (fun c o hb q => k c o (fun q' => hb (by simp only [List.mem_cons, List.not_mem_nil, or_false] at q' ⊢; rcases q' with h | h | h | h <;> simp [h])) q) hf⟩
  self := fun A i s Q E st h => by
    cases strict
    · exact wpAny_pyIter_zip st.1 h
    · exact iter_strict st.1 h
end N
set_option Elab.async false
set_option linter.all false
set_option maxRecDepth 100000
set_option maxHeartbeats 1000000
namespace PySem
open Sem (wp)
end PySem
namespace N
open PySem PySem.Spec PyProof.Rows L2
open C8 (Cal Met Mak InsC pe_c pe_mt pe_mt0 pe_mk)
section
variable {X : Cx} {pins : List (Addr × Obj)} {σ : L2.St} {H : Hp} {s : Shared}
theorem Kd.begins {k : Kd} {xs : List V} {u : Value} (I : Inv X pins σ H s) (hs : k.src X.K H xs) (r : RelV k.v u) :
    k.low s.heap.objs.size ∧ ∃ (t : Tok) (o : Obj) (Hq : Heap → Prop), Begins u o Hq ∧ Hq s.heap ∧ ∀ (h : Heap) (it : Addr), h.get? it = some o → k.at t it 0 h := by
  cases k with
  | lst a =>
    cases r
    obtain ⟨its, rv, p, _⟩ := I.list hs
    exact ⟨p.lt, default, _, _, begins_list a its.toArray, p.isList, fun h it e => ⟨_, e, rfl, rfl⟩⟩
  | tup a =>
    cases r
    obtain ⟨its, rv, p, _⟩ := I.tuple hs
    obtain ⟨o, ho, _⟩ := id p
    exact ⟨Heap.lt_size ho, default, _, _, begins_tuple a its.toArray, p, fun h it e => ⟨_, e, rfl, rfl⟩⟩
  | txt x =>
    obtain ⟨t, rfl⟩ := r
    exact ⟨trivial, t, _, _, begins_text x t, trivial, fun h it e => ⟨_, e, rfl, rfl⟩⟩
end
def iZipK (K : PySem.W.Frag) (strict : Bool) (ta : TA) : TI := fun σ H R => ta σ H fun vs H1 => ∃ (k1 k2 : Kd) (xs ys : List V), vs = [k1.v, k2.v] ∧ k1.src K H1 xs ∧ k2.src K H1 ys ∧ R (ItzK K k1 k2 strict) H1
theorem pi_zipK {X : Cx} {e e2 : Expr} {ta : TA} {p pos tpos : Pos} {elts : List Expr} {kk : Nat} (hg : Gl X "zip") (hm : X.mg "zip" = none) (ha : PA X [e, e2] ta)
    (hs : starEach [e, e2] X.env = (false, eval e X.env) :: starEach [e2] X.env := by rfl) (hpl : (backTo pos (starEach [e2] X.env)).any (·.1) = false := by rfl) :
    PI X (.Tuple elts kk tpos) (.Call (.Name "zip" p) [e, e2] [] pos) (iZipK X.K false ta) := by
  refine ⟨fun pins s σ H R I h => ?_⟩
  refine Call_ (ld_blt I hg hm PyProof.Rows.boot_zip (PyProof.Rows.callWith_type1 (thn (ha.run pos pins s σ H _ I h) fun us s1 ⟨vs, H1, I1, r1, q1⟩ => ?_) hs hpl))
  obtain ⟨k1, k2, xs, ys, ex, hx, hy, q⟩ := q1
  subst ex
  cases r1 with
  | cons r rr =>
    cases rr with
    | cons r' rr =>
      cases rr
      obtain ⟨l1, t1, o1, G1, B1, g1, z1⟩ := Kd.begins I1 hx r
      obtain ⟨l2, t2, o2, G2, B2, g2, z2⟩ := Kd.begins I1 hy r'
      refine zip_begins2 B1 B2 g1 g2 fun h' hz hI hO e1 e2 _ kp => wpAny_pyIter_zip hz ?_
      have I2 : Inv X pins σ H1 { s1 with heap := h' } := I1.kept (t' := s1.toks) kp
      refine ⟨_, _, _, _, H1, rfl, I2, turn_zipK (b := s1.heap.objs.size) (strict := false) (u1 := t1) (u2 := t2) l1 l2, ⟨hz, hI, ⟨_, _, hO⟩, z1 _ _ e1, z2 _ _ e2⟩, fun c hc => ?_, q⟩
      have le : s1.heap.objs.size ≤ c := by
        simp only [List.mem_cons, List.not_mem_nil, or_false] at hc
        rcases hc with rfl | rfl | rfl | rfl | rfl
        · exact Nat.le_add_right _ _
        · exact Nat.le_add_right _ _
        · exact Nat.le_add_right _ _
        · exact Nat.le_refl _
        · exact Nat.le_add_right _ _
      exact I1.fpOk le (I1.hok.fresh le)
section
variable {F : FmKit} {T : Kx} {C H H' O O' : Hp} {G : Gm} {W W' : Om} {R : D → Om → Prop} {d e : D} {l m : List D} {ta tk : TA}
/-- a datum that zip takes: list, tuple, text; nothing that is still written -/
def Zs (d : D) (l : List D) : Prop := d = .lst l ∨ d = .tup l ∨ ∃ x : Str, d = .str x ∧ l = x.cps.toList.map fun c => D.str ⟨#[c]⟩
def pairs2 (l m : List D) : List D := (l.zip m).map fun p => .tup [p.1, p.2]
theorem den_chars (x : Str) : DenL F T H (x.cps.toList.map fun c => D.str ⟨#[c]⟩) (x.cps.toList.map fun c => V.str ⟨#[c]⟩) := by
  induction x.cps.toList with
  | nil => rfl
  | cons c cs ih => exact ⟨_, _, rfl, rfl, ih⟩
/-- the source at the machine; it stands -/
theorem Zs.kd {x : V} (h : Zs d l) (k : Den F T H d x) : ∃ (kd : Kd) (xs : List V), x = kd.v ∧ DenL F T H l xs ∧ ∀ H2 O2, Same H H2 → Dis O2 H2 → kd.src T.K (ov O2 H2) xs := by
  rcases h with rfl | rfl | ⟨z, rfl, rfl⟩
  · obtain ⟨a, xs, e, hs, kl⟩ := k
    exact ⟨.lst a, xs, e, kl, fun H2 O2 s di => di.same.seq (s.seq (SqL.of hs))⟩
  · obtain ⟨a, xs, e, hs, kl⟩ := k
    exact ⟨.tup a, xs, e, kl, fun H2 O2 s di => Same.sqT di.same (Same.sqT s hs)⟩
  · have k : x = .str z := k
    exact ⟨.txt z, _, k, den_chars z, fun _ _ _ _ => rfl⟩
theorem pairs2_len : (pairs2 l m).length = min l.length m.length := by simp [pairs2]
theorem pairs2_get {i : Nat} {z : D} (h : (pairs2 l m)[i]? = some z) : ∃ x y, l[i]? = some x ∧ m[i]? = some y ∧ z = .tup [x, y] := by
  unfold pairs2 at h
  rw [List.getElem?_map] at h
  obtain ⟨p, hp, e⟩ := Option.map_eq_some_iff.mp h
  rw [List.getElem?_zip_eq_some] at hp
  exact ⟨p.1, p.2, hp.1, hp.2, e.symm⟩
/-- the walk over a zip -/
theorem wk_zip {H1 : Hp} {k1 k2 : Kd} {xs ys : List V} {strict : Bool} (a1 : DenL F T H1 l xs) (a2 : DenL F T H1 m ys) (s1 : ∀ H2 O2, Same H1 H2 → Dis O2 H2 → k1.src T.K (ov O2 H2) xs) (s2 : ∀ H2 O2, Same H1 H2 → Dis O2 H2 → k2.src T.K (ov O2 H2) ys) (e : strict = true → l.length = m.length) :
    Wk F T (ItzK T.K k1 k2 strict) H1 (pairs2 l m) := fun i H2 O2 s di => by
  refine ⟨fun d hd => ?_, fun ei => ?_⟩
  · obtain ⟨x, y, hx, hy, rfl⟩ := pairs2_get hd
    obtain ⟨u, hu, ku⟩ := a1.get hx
    obtain ⟨v, hv, kv⟩ := a2.get hy
    have i1 := (List.getElem?_eq_some_iff.mp hu).1
    have i2 := (List.getElem?_eq_some_iff.mp hv).1
    refine ⟨⟨xs, ys, s1 _ _ s di, s2 _ _ s di, i1, i2, fun z => by rw [a1.len, a2.len]; exact e z⟩, fun w X ⟨Tp, u', v', e1, e2, e3, e4, e5⟩ => ?_⟩
    have hu' := e4 xs (s1 _ _ s di)
    have hv' := e5 ys (s2 _ _ s di)
    rw [hu] at hu'
    rw [hv] at hv'
    cases hu'
    cases hv'
    obtain ⟨h1, h2⟩ := ov_none e2
    have sm := same_upd (o := .tup [u, v]) h2
    refine ⟨upd H2 Tp (.tup [u, v]), sm, di.updH h1, by rw [e3, ov_updH h1], Tp, _, e1, SqT.of upd_same, ?_⟩
    exact ⟨u, _, rfl, (ku.mono s).mono sm, v, _, rfl, (kv.mono s).mono sm, rfl⟩
  · rw [pairs2_len] at ei
    have h1 := a1.len
    have h2 := a2.len
    exact ⟨xs, ys, s1 _ _ s di, s2 _ _ s di, by omega, by omega, by omega, fun z => by rw [h1, h2]; exact e z⟩
theorem ei_zipK {Y : List D → Om → Prop} (h : EvA F T ta G W fun ds W1 => ∃ d e l m, ds = [d, e] ∧ Zs d l ∧ Zs e m ∧ Y (pairs2 l m) W1) : EvI F T (iZipK T.K false ta) G W Y := fun C H O σ w Q q =>
  h C H O σ w _ fun ds W1 H1 O1 us ⟨d, e, l, m, ed, z1, z2, y⟩ n k => by
    subst ed
    obtain ⟨x, r, e1, k1, x2, r2, e2, k2, e3⟩ := k
    have e3 : r2 = [] := e3
    subst e3 e2 e1
    obtain ⟨kd1, xs, ex, a1, s1⟩ := z1.kd k1
    obtain ⟨kd2, ys, ey, a2, s2⟩ := z2.kd k2
    subst ex ey
    exact ⟨kd1, kd2, xs, ys, rfl, s1 _ _ (.refl _) n.dis, s2 _ _ (.refl _) n.dis, q _ _ W1 H1 O1 y n (wk_zip a1 a2 s1 s2 fun z => by cases z)⟩
end
end N
set_option Elab.async false
set_option linter.all false
set_option maxRecDepth 100000
set_option maxHeartbeats 1000000
set_option Elab.async false
set_option linter.all false
set_option maxRecDepth 100000
set_option maxHeartbeats 1000000
namespace PySem
open Sem (wp)
theorem tc_enum (a : Value) : checkTypeCall "enumerate" ⟨[a], []⟩ = pure () := by kernel_rfl
theorem nc_enum (a : Value) : checkBuiltinCall "enumerate.__new__" ⟨[.type "enumerate", a], []⟩ = pure () := by kernel_rfl
theorem ao_enum (obj a : Value) : argsOk "object.__init__" ⟨[obj, a], []⟩ := by unfold argsOk; kernel_rfl
theorem meets_enum {v : Value} {p : Obj} {Hp : Heap → Prop} (B : Begins v p Hp) :
    Meets (Builtin.«enumerate.__new__» ⟨[.type "enumerate", v], []⟩) (fun _ R s => Hp s.heap ∧ R (.ok (.ret (.ref (s.heap.push p).objs.size))) { s with heap := (s.heap.push p).push { cls := .type "enumerate", data := .fields #[.none, .bool false, .ref s.heap.objs.size, rawInt 0, .none, .none] } }) :=
  .of_wp fun prog w A R s h => by
    obtain ⟨hp, g, d, tk, os⟩ := s
    obtain ⟨a1, h⟩ := h
    have hsub := sub_enumerate
    have q1 : ∀ {A' : Around} {E : Value → Shared → Prop} {Q : Value → Shared → Prop}, Q (.ref hp.objs.size) ⟨hp.push p, g, d, tk, os⟩ → wpAny (model prog w) A' (pyIter v) Q E ⟨hp, g, d, tk, os⟩ :=
      fun z => B.iter prog w _ _ ⟨hp, g, d, tk, os⟩ _ a1 z
    wp_walk using q1
    refine wpAny_stack_any fun st => wpAny_pure ?_
    split
    · rename_i c _ _ _ _ _
      cases (c == Value.type "enumerate") <;> (wp_walk using q1; exact ⟨_, rfl, h⟩)
    · wp_walk using q1
      exact ⟨_, rfl, h⟩
section
variable {prog : Program} {w : World} {A : Around} {E : Value → Shared → Prop} {s : Shared}
theorem enum1_begins {v : Value} {p : Obj} {Hq : Heap → Prop} {Q : Value → Shared → Prop} (B : Begins v p Hq) (a1 : Hq s.heap)
    (h : ∀ h', IsEnum h' (s.heap.objs.size + 1) s.heap.objs.size 0 .none → h'.get? s.heap.objs.size = some p → (∀ c o, s.heap.get? c = some o → h'.get? c = some o) → Q (.ref (s.heap.objs.size + 1)) { s with heap := h' }) :
    wpAny (model prog w) A (call (.type "enumerate") [v]) Q E s := by
  refine callType_new F.called_enumerate (by decide) (tc_enum _) (nc_enum _) (fun obj => ao_enum obj _) F.entry_enumerate_new (meets_enum B) ⟨a1, ?_⟩
  have e0 : (s.heap.push p).objs.size = s.heap.objs.size + 1 := Heap.size_push ..
  show _ ∧ _
  have g := Heap.get?_push_size (s.heap.push p) (o := { cls := .type "enumerate", data := .fields #[.none, .bool false, .ref s.heap.objs.size, rawInt 0, .none, .none] }) rfl
  rw [e0] at g ⊢
  exact ⟨⟨_, g, rfl⟩, h _ g (Heap.get?_push_of_some _ (Heap.get?_push_size _ B.free)) fun c o e => Heap.get?_push_of_some _ (Heap.get?_push_of_some _ e)⟩
end
end PySem
namespace N
open PySem PySem.Spec PyProof.Rows L2
open C8 (Cal Met Mak InsC pe_c pe_mt pe_mt0 pe_mk)
def IteK (K : PySem.W.Frag) (k : Kd) (c : Int) : It :=
  ⟨fun i H => ∃ xs : List V, k.src K H xs ∧ i < xs.length,
    fun i H v H' => ∃ T x, v = .ref T ∧ H T = none ∧ H' = upd H T (.tup [.int (c + (i : Nat)), x]) ∧ ∀ xs, k.src K H xs → xs[i]? = some x,
    fun i H => ∃ xs : List V, k.src K H xs ∧ i = xs.length⟩
theorem turn_enumK {P : Program} {w : World} {K : PySem.W.Frag} {elts : List Expr} {kk : Nat} {tpos : Pos} {k : Kd} {c : Int} {u1 : Tok} {b : Nat} (l1 : k.low b) :
    Turn P w K (.Tuple elts kk tpos) (IteK K k c) [b + 1, b] (b + 1) (fun i h => (∃ old, IsEnum h (b + 1) b (c + (i : Nat)) old) ∧ k.at u1 b i h) where
  mem := by simp
  obj := fun i h st d hd => by
    obtain ⟨⟨old, he⟩, s1⟩ := st
    simp only [List.mem_cons, List.not_mem_nil, or_false] at hd
    rcases hd with rfl | rfl
    · exact ⟨_, he, fun v q => nomatch q⟩
    · exact Kd.obj s1
  keep := fun i h h' st z => by
    obtain ⟨⟨old, he⟩, s1⟩ := st
    exact ⟨⟨old, z _ (by simp) _ he⟩, Kd.keep s1 fun o e => z _ (by simp) o e⟩
  item := by
    intro X hP hw hK hc i pins s σ H E I hf st hg
    subst hP hw hK
    obtain ⟨⟨old, he⟩, s1⟩ := st
    obtain ⟨xs, hx, hi⟩ := hg
    obtain ⟨f1, P1, S1, D1, m1, b1, t1, o1, v1⟩ := Kd.draws (t := u1) (it := b) I hc hx l1 (Nat.le_refl _)
    have lt : b + 1 < s.heap.objs.size := Heap.lt_size he
    refine wpAny_pyNext_enum_itemC D1 he (t1 _ s1) hi (ne_add (c := 1) (d := 0) (by decide)) (fun h => zno (by decide) (by decide) (b1 _ h)) fun x h' tk px ho a1 hT _ kp => ?_
    refine ⟨_, rfl, wpAny_letOwnedTupleGo_enum (s := { s with heap := h', toks := tk + 1 }) ho fun h2 he2 sb => ?_⟩
    obtain ⟨u, gu, ru⟩ := v1 i x px
    have up : ∀ d o, d ≠ b + 1 → h'.get? d = some o → h2.get? d = some o := fun d o ne e => (sb.2 d ne).trans e
    have new2 : h2.get? s.heap.objs.size = some { cls := .type "tuple", data := .seq #[.int (c + (i : Nat)) tk, x] } := up _ _ (Nat.ne_of_gt lt) hT
    have ok : ObjOk X.prog X.w (upd H s.heap.objs.size (.tup [.int (c + (i : Nat)), u])) h2 s.heap.objs.size (.tup [.int (c + (i : Nat)), u]) :=
      ⟨by show 2 ≤ sizeLine; decide, [.int (c + (i : Nat)) tk, x], .cons ⟨_, rfl⟩ (.cons ru .nil), ⟨_, new2, rfl, _, rfl⟩⟩
    have I1 : Inv X pins σ (upd H s.heap.objs.size (.tup [.int (c + (i : Nat)), u])) { s with heap := h2, toks := tk + 1 } :=
      I.turnedNew (t' := tk + 1) (ch := [b + 1, b]) (fun d o hb q => up d o (fun q' => hb (by simp [q'])) (kp d o (fun q' => hb (by simp [q'])) (fun q' => hb (by simp [q'])) q)) hf (Nat.le_refl _) ok
    refine ⟨.ref s.heap.objs.size, _, I1, rfl, ⟨_, u, rfl, I.hok.fresh (Nat.le_refl _), rfl, fun l hl => by rw [Kd.inj I hl hx]; exact gu⟩, ⟨⟨x, ?_⟩, ?_⟩, fun d hd => ?_⟩
    · have e1 : c + ((i + 1 : Nat) : Int) = c + (i : Nat) + 1 := by omega
      rw [e1]
      exact he2
    · exact Kd.keep (o1 _ _ a1) fun o e => up _ _ (ne_add (c := 0) (d := 1) (by decide)) e
    · have hlt : d < s.heap.objs.size := by
        simp only [List.mem_cons, List.not_mem_nil, or_false] at hd
        rcases hd with rfl | rfl
        · exact lt
        · exact Nat.lt_of_succ_lt lt
      rw [upd_ne (Nat.ne_of_lt hlt)]
      exact (hf d hd).1
  done := by
    intro X hP hw hK hc i pins s σ H E I hf st hg
    subst hP hw hK
    obtain ⟨⟨old, he⟩, s1⟩ := st
    obtain ⟨xs, hx, rfl⟩ := hg
    obtain ⟨f1, P1, S1, D1, m1, b1, t1, o1, v1⟩ := Kd.draws (t := u1) (it := b) I hc hx l1 (Nat.le_refl _)
    exact wpAny_pyNext_enum_endD D1 he (t1 _ s1) fun h' z => ⟨rfl, I.turnedL (t' := s.toks) (ch := [b + 1, b]) (fun d o hb q => z d o (fun q' => hb (by simp [q'])) q) hf⟩
  self := fun A i s Q E st h => let ⟨⟨_, he⟩, _⟩ := st; wpAny_pyIter_enum he h
def iEnumK (K : PySem.W.Frag) (ta : TA) : TI := fun σ H R => ta σ H fun vs H1 => ∃ (k : Kd) (xs : List V), vs = [k.v] ∧ k.src K H1 xs ∧ R (IteK K k 0) H1
theorem pi_enumK {X : Cx} {e : Expr} {ta : TA} {p pos tpos : Pos} {elts : List Expr} {kk : Nat} (hg : Gl X "enumerate") (hm : X.mg "enumerate" = none) (ha : PA X [e] ta) (hs : starEach [e] X.env = [(false, eval e X.env)] := by rfl) :
    PI X (.Tuple elts kk tpos) (.Call (.Name "enumerate" p) [e] [] pos) (iEnumK X.K ta) := by
  refine ⟨fun pins s σ H R I h => ?_⟩
  refine Call_ (ld_blt I hg hm boot_enumerate (PyProof.Rows.callWith_type1 (thn (ha.run pos pins s σ H _ I h) fun us s1 ⟨vs, H1, I1, r1, q1⟩ => ?_) hs rfl))
  obtain ⟨k, xs, ex, hx, q⟩ := q1
  subst ex
  cases r1 with
  | cons r rr =>
    cases rr
    obtain ⟨l1, t1, o1, G1, B1, g1, z1⟩ := Kd.begins I1 hx r
    refine enum1_begins B1 g1 fun h' he e1 kp => wpAny_pyIter_enum he ?_
    have I2 : Inv X pins σ H1 { s1 with heap := h' } := I1.kept (t' := s1.toks) kp
    refine ⟨_, _, _, _, H1, rfl, I2, turn_enumK (b := s1.heap.objs.size) (c := 0) (u1 := t1) l1, ⟨⟨.none, he⟩, z1 _ _ e1⟩, fun d hd => ?_, q⟩
    have le : s1.heap.objs.size ≤ d := by
      simp only [List.mem_cons, List.not_mem_nil, or_false] at hd
      rcases hd with rfl | rfl
      · exact Nat.le_add_right _ _
      · exact Nat.le_refl _
    exact I1.fpOk le (I1.hok.fresh le)
section
variable {F : FmKit} {T : Kx} {C H H' O O' : Hp} {G : Gm} {W W' : Om} {R : D → Om → Prop} {l : List D} {ta tk : TA}
theorem wk_enum {H1 : Hp} {k : Kd} {xs : List V} {c : Nat} (a1 : DenL F T H1 l xs) (s1 : ∀ H2 O2, Same H1 H2 → Dis O2 H2 → k.src T.K (ov O2 H2) xs) : Wk F T (IteK T.K k (c : Nat)) H1 (pairsD c l) := fun i H2 O2 s di => by
  refine ⟨fun d hd => ?_, fun ei => ?_⟩
  · obtain ⟨x, hx, rfl⟩ := pairsD_get hd
    obtain ⟨u, hu, ku⟩ := a1.get hx
    refine ⟨⟨xs, s1 _ _ s di, (List.getElem?_eq_some_iff.mp hu).1⟩, fun w X ⟨Tp, u', e1, e2, e3, e4⟩ => ?_⟩
    have hu' := e4 xs (s1 _ _ s di)
    rw [hu] at hu'
    cases hu'
    obtain ⟨h1, h2⟩ := ov_none e2
    have ec : ((c + i : Nat) : Int) = (c : Int) + (i : Nat) := by omega
    have sm := same_upd (o := .tup [.int ((c : Nat) + (i : Nat)), u]) h2
    refine ⟨upd H2 Tp (.tup [.int ((c : Nat) + (i : Nat)), u]), sm, di.updH h1, by rw [e3, ov_updH h1], Tp, _, e1, SqT.of upd_same, ?_⟩
    rw [ec]
    exact ⟨_, _, rfl, rfl, u, _, rfl, (ku.mono s).mono sm, rfl⟩
  · rw [pairsD_len] at ei
    exact ⟨xs, s1 _ _ s di, by rw [a1.len]; exact ei⟩
theorem ei_enumK {Y : List D → Om → Prop} (h : EvA F T ta G W fun ds W1 => ∃ d l, ds = [d] ∧ Zs d l ∧ Y (pairsD 0 l) W1) : EvI F T (iEnumK T.K ta) G W Y := fun C H O σ w Q q =>
  h C H O σ w _ fun ds W1 H1 O1 us ⟨d, l, ed, z1, y⟩ n k => by
    subst ed
    obtain ⟨x, r, e1, k1, e2⟩ := k
    have e2 : r = [] := e2
    subst e2 e1
    obtain ⟨kd1, xs, ex, a1, s1⟩ := z1.kd k1
    subst ex
    exact ⟨kd1, xs, rfl, s1 _ _ (.refl _) n.dis, q _ _ W1 H1 O1 y n (wk_enum (c := 0) a1 s1)⟩
end
end N
set_option Elab.async false
set_option linter.all false
set_option maxRecDepth 100000
namespace N
open PySem PySem.Spec PyProof.Rows L2
namespace Fm
def tr : Fm → D
  | .at c => .tup [.str "atom", .str (sg c)]
  | .no => .tup [.str "no"]
  | .imp a b => .tup [.str "if", a.tr, b.tr]
  | .all a => .tup [.str "all", a.tr]
def ht : Fm → Nat
  | .at _ => 0
  | .no => 0
  | .imp a b => 1 + max a.ht b.ht
  | .all a => 1 + a.ht
theorem sz_ht : ∀ f : Fm, f.sz + 5 ≤ 7 * 2 ^ f.ht
  | .at _ => by simp [sz, ht]
  | .no => by simp [sz, ht]
  | .imp a b => by
    have h1 := sz_ht a
    have h2 := sz_ht b
    have l1 : 2 ^ a.ht ≤ 2 ^ max a.ht b.ht := Nat.pow_le_pow_right (by omega) (Nat.le_max_left _ _)
    have l2 : 2 ^ b.ht ≤ 2 ^ max a.ht b.ht := Nat.pow_le_pow_right (by omega) (Nat.le_max_right _ _)
    simp only [sz, ht, Nat.pow_add, Nat.pow_one]
    omega
  | .all a => by
    have h1 := sz_ht a
    have : 1 ≤ 2 ^ a.ht := Nat.one_le_two_pow
    simp only [sz, ht, Nat.pow_add, Nat.pow_one]
    omega
/-- few unlike all-parts -/
def few (k : Nat) (f : Fm) : Prop := ∃ L : List Fm, L.length ≤ k ∧ ∀ g ∈ f.alls, g ∈ L
theorem few.len {k : Nat} {f : Fm} (h : few k f) (ok : f.okL) : f.alls.length ≤ k := by
  obtain ⟨L, h1, h2⟩ := h
  exact Nat.le_trans (len_le (nodup_asc (alls_sub ok).2) h2) h1
theorem few.up {k j : Nat} {f : Fm} (h : few k f) (hk : k ≤ j) : few j f := let ⟨L, h1, h2⟩ := h; ⟨L, by omega, h2⟩
theorem few.imp {k j : Nat} {f g : Fm} (h : few k f) (h' : few j g) : few (k + j) (.imp f g) := by
  obtain ⟨L, h1, h2⟩ := h
  obtain ⟨M, h3, h4⟩ := h'
  refine ⟨L ++ M, by rw [List.length_append]; omega, fun x hx => ?_⟩
  rw [List.mem_append]
  exact (mem_merge.mp hx).imp (h2 x) (h4 x)
theorem few.same {k : Nat} {f : Fm} (h : few k f) : few k (.imp f f) := by
  obtain ⟨L, h1, h2⟩ := h
  exact ⟨L, h1, fun x hx => (mem_merge.mp hx).elim (h2 x) (h2 x)⟩
theorem few.all {k : Nat} {f : Fm} (h : few k f) : few (k + 1) (.all f) := by
  obtain ⟨L, h1, h2⟩ := h
  refine ⟨.all f :: L, by rw [List.length_cons]; omega, fun x hx => ?_⟩
  rw [List.mem_cons]
  rcases mem_merge.mp hx with h | h
  · exact .inr (h2 x h)
  · exact .inl (List.mem_singleton.mp h)
theorem few.at (c : Nat) : few 0 (.at c) := ⟨[], Nat.le_refl _, fun x hx => by simp [alls] at hx⟩
theorem few.no : few 0 .no := ⟨[], Nat.le_refl _, fun x hx => by simp [alls] at hx⟩
theorem few_ht : ∀ f : Fm, few (2 ^ f.ht - 1) f
  | .at c => (few.at c).up (by omega)
  | .no => few.no.up (by omega)
  | .imp a b => by
    have l1 : 2 ^ a.ht ≤ 2 ^ max a.ht b.ht := Nat.pow_le_pow_right (by omega) (Nat.le_max_left _ _)
    have l2 : 2 ^ b.ht ≤ 2 ^ max a.ht b.ht := Nat.pow_le_pow_right (by omega) (Nat.le_max_right _ _)
    refine ((few_ht a).imp (few_ht b)).up ?_
    simp only [ht, Nat.pow_add, Nat.pow_one]
    omega
  | .all a => by
    have : 1 ≤ 2 ^ a.ht := Nat.one_le_two_pow
    refine (few_ht a).all.up ?_
    simp only [ht, Nat.pow_add, Nat.pow_one]
    omega
end Fm
theorem DkA_mono {a : Addr} {c c' : Int} {W : Om} (h : DkA a c W) (hc : c ≤ c') : DkA a c' W := let ⟨l, cells, s, n, h1, h2, h3, h4⟩ := h; ⟨l, cells, s, n, h1, h2, h3, by omega⟩
def letters (p : Str) : Prop := ∀ c ∈ lets p, (65 ≤ c ∧ c ≤ 90) ∨ (97 ≤ c ∧ c ≤ 122)
def S_form (Dk : Deck) (j : Nat) : FS := fun ds W post => ∃ (a : Addr) (c : Int) (p : Str) (n : Nat), ds = [.adr a, .str p, .int (n : Nat)] ∧ Dk a c W ∧ n < j ∧ j ≤ 20 ∧ letters p ∧ p.length ≠ 0 ∧ p.length ≤ 1000 ∧ c + 4 * 2 ^ n < 2 ^ 59 ∧
  ∀ (f : Fm) (W' : Om), f.okL → f.ht ≤ n → Dk a (c + (4 * 2 ^ n - 1)) W' → post f.tr W'
def S_text (j : Nat) : FS := fun ds W post => ∃ f : Fm, ds = [f.tr] ∧ W = [] ∧ f.ht < j ∧ f.sz ≤ 1000000 ∧ post (.str f.spell) []
def S_built (j : Nat) : FS := fun ds W post => ∃ f : Fm, ds = [f.tr] ∧ W = [] ∧ f.ht < j ∧ f.okF ∧ post (.fm f) []
theorem pow_le19 {n : Nat} (h : n ≤ 20) : (2 : Int) ^ n ≤ 1048576 := by
  have : (2 : Nat) ^ n ≤ 2 ^ 20 := Nat.pow_le_pow_right (by omega) h
  have e : ((2 ^ n : Nat) : Int) = (2 : Int) ^ n := by rw [Int.natCast_pow]; rfl
  rw [← e]
  have : (2 : Nat) ^ 20 = 1048576 := by decide
  omega
theorem pow_pos' (n : Nat) : (1 : Int) ≤ 2 ^ n := by
  have : 1 ≤ (2 : Nat) ^ n := Nat.one_le_two_pow
  have e : ((2 ^ n : Nat) : Int) = (2 : Int) ^ n := by rw [Int.natCast_pow]; rfl
  omega
theorem str_nat (n : Nat) : (((n + 1 : Nat) : Int) - 1) = (n : Int) := by omega
end N
set_option Elab.async false
set_option linter.all false
set_option maxRecDepth 100000
namespace N
open PySem PySem.Spec PyProof.Rows L2
namespace Fm
def inner : Fm → List Fm
  | .imp a b => [a, b]
  | .all a => [a]
  | _ => []
def subs : Fm → List Fm
  | .at c => [.at c]
  | .no => [.no]
  | .imp a b => .imp a b :: (subs a ++ subs b)
  | .all a => .all a :: subs a
theorem subs_self (f : Fm) : f ∈ subs f := by cases f <;> simp [subs]
/-- each one behind those within it -/
inductive Cl : List Fm → Prop
  | nil : Cl []
  | snoc {l : List Fm} {g : Fm} : Cl l → (∀ p ∈ inner g, p ∈ l) → Cl (l ++ [g])
theorem Cl.take {l : List Fm} (h : Cl l) : ∀ i g, l[i]? = some g → ∀ p ∈ inner g, p ∈ l.take i := by
  induction h with
  | nil => intro i g h; simp at h
  | @snoc l g h hp ih =>
    intro i x hx p px
    by_cases hi : i < l.length
    · rw [List.getElem?_append_left hi] at hx
      rw [List.take_append_of_le_length (by omega)]
      exact ih i x hx p px
    · rw [List.getElem?_append_right (by omega)] at hx
      have e : i = l.length := by
        have := (List.getElem?_eq_some_iff.mp hx).1
        simp at this
        omega
      subst e
      simp at hx
      subst hx
      simp
      exact hp p px
structure PW (f : Fm) (K F : List Fm) (L : List (Fm × Bool)) : Prop where
  kn : K.Nodup
  ks : ∀ g ∈ K, g ∈ subs f
  ls : ∀ x ∈ L, x.1 ∈ subs f
  kf : ∀ g, g ∈ K ↔ g ∈ F ∨ (g, true) ∈ L
  fn : F.Nodup
  dj : ∀ g ∈ F, (g, true) ∉ L
  cl : Cl F
  up : ∀ A h B, L = A ++ (h, true) :: B → (∀ x ∈ B, x.1.sz < h.sz) ∧ ∀ p ∈ inner h, p ∈ F ∨ ∃ b, (p, b) ∈ B
  bt : (∃ B, L = (f, true) :: B) ∨ (L = [] ∧ ∃ F', F = F' ++ [f]) ∨ (L = [(f, false)] ∧ K = [])
  ln : L.length ≤ 2 * K.length + 1
theorem PW.start (f : Fm) : PW f [] [] [(f, false)] where
  kn := List.nodup_nil
  ks := by simp
  ls := by simp [subs_self]
  kf := by simp
  fn := List.nodup_nil
  dj := by simp
  cl := .nil
  up := by
    intro A h B e
    have : (h, true) ∈ [(f, false)] := by rw [e]; simp
    simp at this
  bt := .inr (.inr ⟨rfl, rfl⟩)
  ln := by simp
section
variable {f g h : Fm} {K F : List Fm} {L : List (Fm × Bool)}
theorem PW.low (s : PW f K F (L ++ [(h, true)])) : (h, true) ∉ L := fun m => by
  obtain ⟨A, B, e⟩ := List.append_of_mem m
  have := (s.up A h (B ++ [(h, true)]) (by rw [e]; simp)).1 (h, true) (by simp)
  exact Nat.lt_irrefl _ this
end
/-- others in the place of atoms -/
def sub (σ : Nat → Fm) : Fm → Fm
  | .at c => σ c
  | .no => .no
  | .imp a b => .imp (a.sub σ) (b.sub σ)
  | .all a => .all (a.sub σ)
end Fm
end N
set_option Elab.async false
set_option linter.all false
set_option maxRecDepth 100000
namespace N
open PySem PySem.Spec PyProof.Rows L2
open C8 (Cal Met Mak InsC pe_c pe_mt pe_mt0 pe_mk)
def wbNames : List Str := ["below", "atoms", "all_beneath", "all_heights"]
structure Wb where
  below : List (List Nat)
  atoms : List Str
abbrev natD (k : Nat) : D := .int (k : Nat)
abbrev rowD (r : List Nat) : D := .tup (r.map natD)
abbrev rowsD (rs : List (List Nat)) : D := .tup (rs.map rowD)
abbrev atomsD (l : List Str) : D := .tup (l.map .str)
/-- the points beneath each one, by the points directly below -/
def bensF (rs : List (List Nat)) : List (List Nat) := rs.foldl (fun acc r => acc ++ [ascN (r ++ (r.map fun k => acc.getD k []).flatten)]) []
def hgtF (rs : List (List Nat)) : List Nat := rs.foldl (fun acc r => acc ++ [((r.map fun k => 1 + acc.getD k 0)).foldl max 0]) []
structure rowsOk (rs : List (List Nat)) : Prop where
  asc : ∀ (i : Nat) (r : List Nat), rs[i]? = some r → r.Pairwise (· < ·) ∧ ∀ k ∈ r, k < i
  few : rs.length ≤ 63
theorem rowsOk.take {rs : List (List Nat)} (h : rowsOk rs) (n : Nat) : rowsOk (rs.take n) where
  asc := fun i r hr => by
    rw [List.getElem?_take] at hr
    split at hr
    · exact h.asc i r hr
    · cases hr
  few := Nat.le_trans (by rw [List.length_take]; exact Nat.min_le_right _ _) h.few
theorem bensF_snoc (rs : List (List Nat)) (r : List Nat) : bensF (rs ++ [r]) = bensF rs ++ [ascN (r ++ (r.map fun k => (bensF rs).getD k []).flatten)] := by
  unfold bensF
  rw [List.foldl_append]
  rfl
theorem snoc_ind {α : Type} {P : List α → Prop} (h0 : P []) (h1 : ∀ l a, P l → P (l ++ [a])) (l : List α) : P l := by
  rw [← List.reverse_reverse l]
  induction l.reverse with
  | nil => exact h0
  | cons a l ih =>
    rw [List.reverse_cons]
    exact h1 _ a ih
theorem bensF_len (rs : List (List Nat)) : (bensF rs).length = rs.length := by
  induction rs using snoc_ind with
  | h0 => rfl
  | h1 rs r ih => rw [bensF_snoc, List.length_append, List.length_append, ih]; rfl
structure Wb.ok (w : Wb) : Prop where
  rows : rowsOk w.below
  some_ : w.below ≠ []
  len : w.atoms.length = w.below.length
  lets : ∀ s ∈ w.atoms, letters s ∧ (N.lets s).Pairwise (· < ·)
def Wb.d (w : Wb) : D := .obj 1 wbNames [rowsD w.below, atomsD w.atoms, .lst ((bensF w.below).map rowD), .lst ((hgtF w.below).map natD)]
section
variable {F : FmKit} {T : Kx} {W : Om} {R : D → Om → Prop}
theorem isi_int {i : Int} (r : R (.bl true) W) : Ca F T (rIsi T.K) [.int i, .vl (.ty "int")] W R := ca_isi (.ty "int") tyd_int (by unfold PySem.W.kitOne; rfl) r
theorem isi_intB {i : Int} (r : R (.bl false) W) : Ca F T (rIsi T.K) [.int i, .vl (.ty "bool")] W R := ca_isi (.ty "bool") tyd_int (by unfold PySem.W.kitOne; first | rfl | decide +kernel) r
end
theorem letters_len {s : Str} (hl : letters s) (hp : (lets s).Pairwise (· < ·)) : s.length ≤ 100 := by
  have h1 := hp.imp (S := (· ≠ ·)) fun h => Nat.ne_of_lt h
  have h2 := List.Nodup.length_le_of_subset (l₁ := (lets s).map (· - 30)) (l₂ := List.range 100) ?_ fun x hx => ?_
  · rw [List.length_range, List.length_map, ← str_len] at h2
    exact h2
  · rw [List.Nodup, List.pairwise_map]
    refine hp.imp_of_mem fun {a b} ha hb h => ?_
    have := hl a ha
    have := hl b hb
    omega
  · obtain ⟨c, hc, rfl⟩ := List.mem_map.mp hx
    have := hl c hc
    rw [List.mem_range]
    omega
theorem bensF_low {rs : List (List Nat)} : rowsOk rs → ∀ (i : Nat) (b : List Nat), (bensF rs)[i]? = some b → ∀ x ∈ b, x < i := by
  induction rs using snoc_ind with
  | h0 => intro _ i b h; simp [bensF] at h
  | h1 rs r ih =>
    intro ok i b h x hx
    have ok2 : rowsOk rs := by
      have := ok.take rs.length
      simpa using this
    rw [bensF_snoc] at h
    by_cases hi : i < (bensF rs).length
    · rw [List.getElem?_append_left hi] at h
      exact ih ok2 i b h x hx
    · rw [List.getElem?_append_right (by omega)] at h
      have e : i = rs.length := by
        have := (List.getElem?_eq_some_iff.mp h).1
        rw [bensF_len] at *
        simp at this
        omega
      subst e
      rw [bensF_len] at h
      simp at h
      subst h
      rw [mem_ascN, List.mem_append] at hx
      have hr := (ok.asc rs.length r (by simp)).2
      rcases hx with h | h
      · exact hr x h
      · obtain ⟨l, hl, hx2⟩ := List.mem_flatten.mp h
        obtain ⟨k, hk, rfl⟩ := List.mem_map.mp hl
        have hk2 := hr k hk
        have hb : (bensF rs)[k]? = some ((bensF rs).getD k []) := by
          rw [List.getD_eq_getElem?_getD, List.getElem?_eq_getElem (by rw [bensF_len]; exact hk2)]
          rfl
        have := ih ok2 k _ hb x hx2
        omega
theorem low_len {ks : List Nat} {j : Nat} (nd : ks.Nodup) (h : ∀ x ∈ ks, x < j) : ks.length ≤ j := by
  have h2 := List.Nodup.length_le_of_subset (l₁ := ks) (l₂ := List.range j) nd fun x hx => List.mem_range.mpr (h x hx)
  rwa [List.length_range] at h2
inductive FldW : Str → Wb → D → Prop
  | below (w : Wb) : FldW "below" w (rowsD w.below)
  | atoms (w : Wb) : FldW "atoms" w (atomsD w.atoms)
  | bens (w : Wb) : FldW "all_beneath" w (.lst ((bensF w.below).map rowD))
  | hgts (w : Wb) : FldW "all_heights" w (.lst ((hgtF w.below).map natD))
end N
set_option Elab.async false
set_option linter.all false
set_option maxRecDepth 100000
namespace N
open PySem PySem.Spec PyProof.Rows L2
open C8 (Cal Met Mak InsC pe_c pe_mt pe_mt0 pe_mk)
/-- a def of the text with defaults -/
abbrev FunT (K : PySem.W.Frag) (x qual : Str) (st : Stmt) (dvs : List V) (f : Addr) (fd : FuncData) : Prop := FunD K x qual (defArgs st) (defBody st) (defScope st) dvs [] f fd
section
variable {P : Program} {w : World} {K : PySem.W.Frag} {mg : Str → Option Value} {base : Heap} {F : FmKit} {cl : Nat → Addr} {S : FS}
/-- every argument is written -/
theorem FunT.all {x qual : Str} {st : Stmt} {dvs : List V} {f : Addr} {fd : FuncData} {ps : List Str} (Fn : FunT K x qual st dvs f fd) (hd : dvs ≠ [])
    (h : ∀ (T : Addr) (kV doc pm : Value) (an : Option Addr) (cdv ct : Value) (us its : List Value), us.length = ps.length → its.length = dvs.length →
      ∃ k, bindArgs (PySem.W.fnOf x qual (defArgs st) (defBody st) (defScope st) (.ref T) kV doc pm an cdv ct) ⟨us, []⟩ = seqItems? (.ref T) >>= k ∧ k (some its.toArray) = pure (ps.zip us)) : Binds K fd ps [] := by
  obtain ⟨ds, r, b⟩ := FunD.binds1 (ps := ps) Fn ps.length dvs.length hd (by omega) (fun T kV doc pm an cdv ct us its h1 h2 => by
    obtain ⟨k, e1, e2⟩ := h T kV doc pm an cdv ct us its h1 h2
    refine ⟨k, e1, ?_⟩
    rw [e2, List.drop_of_length_le (by omega), List.append_nil])
  rw [List.drop_of_length_le (Nat.le_refl _)] at r
  cases r
  exact b
end
theorem inst_wb {F : FmKit} {W : Om} (w : Wb) : Inst F W w.d 1 wbNames [rowsD w.below, atomsD w.atoms, .lst ((bensF w.below).map rowD), .lst ((hgtF w.below).map natD)] := .obj _ _ _
/-- a field of a formula or of a web -/
theorem ev_fwF {T : Kx} {G : Gm} {W : Om} {R : D → Om → Prop} {ta : TE} {n : Str} (zf : FZ T.K (T.cl 0)) (zw : CZ T.K (T.cl 1) wbNames)
    (h : Ev FK T ta G W fun d W1 => (∃ f z, d = .fm f ∧ FldF n f z ∧ R z W1) ∨ ∃ w z, d = Wb.d w ∧ FldW n w z ∧ R z W1) : Ev FK T (tFld T.K ta n) G W R :=
  ev_fld (h.imp fun d W1 hh => by
    rcases hh with ⟨f, z, e, k, r⟩ | ⟨w, z, e, f, r⟩
    · subst e
      exact ⟨0, fmNames, fmVals FK f, z, .fm f, zf.cls, zf.nos n k.look.1, k.look.2, r⟩
    · subst e
      refine ⟨1, wbNames, _, z, .obj _ _ _, zw.cls, ?_, ?_, r⟩
      · cases f <;> exact zw.nos _ (by decide +kernel)
      · cases f <;> rfl)
end N
set_option Elab.async false
set_option linter.all false
set_option maxRecDepth 100000
set_option maxHeartbeats 4000000
namespace N
open PySem PySem.Spec PyProof.Rows L2
def rSetL (K : PySem.W.Frag) (w : World) : List V → Hp → VK → Prop := fun xs H Q => ∃ (l : Addr) (ns : List Int), xs = [.ref l] ∧ SqL K H l (ns.map V.int) ∧ ns.length < 4000 ∧ ∀ a c, c ≤ ns.length → H a = none → Q (.ref a) (upd H a (SetO w a (fun j => decide (j ∈ ns)) c))
end N
set_option Elab.async false
set_option linter.all false
set_option maxRecDepth 100000
set_option maxHeartbeats 4000000
set_option Elab.async false
set_option linter.all false
set_option maxRecDepth 100000
set_option maxHeartbeats 4000000
namespace N
open PySem PySem.Spec PyProof.Rows L2
section
variable {P : Program} {w : World} {A : Around} {E : Value → Shared → Prop} {s : Shared}
theorem strsAre_of_get {us : List Value} {xs : List Str} (hl : us.length = xs.length) (h : ∀ (i : Nat) (v : Value), us[i]? = some v → ∃ k t, xs[i]? = some k ∧ v = .str k t) : StrsAre us xs := by
  induction us generalizing xs with
  | nil =>
    cases xs with
    | nil => exact .nil
    | cons x xs => cases hl
  | cons u us ih =>
    cases xs with
    | nil => cases hl
    | cons x xs =>
      obtain ⟨k, t, e1, rfl⟩ := h 0 u rfl
      have e1 : some x = some k := e1
      cases e1
      exact .cons x t (ih (by simpa using hl) fun i v hv => h (i + 1) v hv)
end
end N
set_option Elab.async false
set_option linter.all false
set_option maxRecDepth 100000
namespace N
open PySem PySem.Spec PyProof.Rows L2
theorem getD_snoc_lt {α : Type} {l : List α} {a d : α} {i : Nat} (h : i < l.length) : (l ++ [a]).getD i d = l.getD i d := by
  rw [List.getD_eq_getElem?_getD, List.getD_eq_getElem?_getD, List.getElem?_append_left h]
theorem getD_snoc_eq {α : Type} {l : List α} {a d : α} {i : Nat} (h : i = l.length) : (l ++ [a]).getD i d = a := by
  subst h
  rw [List.getD_eq_getElem?_getD, List.getElem?_append_right (Nat.le_refl _)]
  simp
theorem rowsOk.init {rs : List (List Nat)} {r : List Nat} (h : rowsOk (rs ++ [r])) : rowsOk rs := by
  have := h.take rs.length
  simpa using this
theorem rowsOk.at_ {rs : List (List Nat)} (h : rowsOk rs) {i : Nat} (hi : i < rs.length) : (rs.getD i []).Pairwise (· < ·) ∧ ∀ k ∈ rs.getD i [], k < i :=
  h.asc i _ (by rw [List.getD_eq_getElem?_getD, List.getElem?_eq_getElem hi]; rfl)
theorem bens_at {rs : List (List Nat)} : rowsOk rs → ∀ {i : Nat}, i < rs.length → (bensF rs).getD i [] = ascN (rs.getD i [] ++ ((rs.getD i []).map fun k => (bensF rs).getD k []).flatten) := by
  induction rs using snoc_ind with
  | h0 => intro _ i h; cases h
  | h1 rs r ih =>
    intro ok i hi
    rw [bensF_snoc]
    have hl := bensF_len rs
    rw [List.length_append] at hi
    have hi : i < rs.length + 1 := hi
    rcases Nat.lt_or_eq_of_le (Nat.le_of_lt_succ hi) with h | h
    · rw [getD_snoc_lt (by omega), getD_snoc_lt h, ih ok.init h]
      congr 3
      refine List.map_congr_left fun k hk => ?_
      have := (ok.init.at_ h).2 k hk
      rw [getD_snoc_lt (by omega)]
    · rw [getD_snoc_eq (by omega), getD_snoc_eq h]
      congr 3
      refine List.map_congr_left fun k hk => ?_
      have := (ok.asc rs.length r (by simp)).2 k hk
      rw [getD_snoc_lt (by omega)]
theorem bens_mem {rs : List (List Nat)} (ok : rowsOk rs) {i x : Nat} (hi : i < rs.length) : x ∈ (bensF rs).getD i [] ↔ x ∈ rs.getD i [] ∨ ∃ k ∈ rs.getD i [], x ∈ (bensF rs).getD k [] := by
  rw [bens_at ok hi, mem_ascN, List.mem_append, List.mem_flatten]
  refine or_congr Iff.rfl ⟨fun ⟨l, h1, h2⟩ => ?_, fun ⟨k, h1, h2⟩ => ⟨_, List.mem_map.mpr ⟨k, h1, rfl⟩, h2⟩⟩
  obtain ⟨k, h3, rfl⟩ := List.mem_map.mp h1
  exact ⟨k, h3, h2⟩
theorem bens_lt {rs : List (List Nat)} (ok : rowsOk rs) {i x : Nat} (hi : i < rs.length) (h : x ∈ (bensF rs).getD i []) : x < i :=
  bensF_low ok i _ (by rw [List.getD_eq_getElem?_getD, List.getElem?_eq_getElem (by rw [bensF_len]; exact hi)]; rfl) x h
theorem bens_trans {rs : List (List Nat)} (ok : rowsOk rs) {x k : Nat} : ∀ (i : Nat), i < rs.length → k ∈ (bensF rs).getD i [] → x ∈ (bensF rs).getD k [] → x ∈ (bensF rs).getD i [] := by
  intro i
  induction i using Nat.strongRecOn with
  | ind i ih =>
    intro hi h hx
    rcases (bens_mem ok hi).mp h with h1 | ⟨q, h1, h2⟩
    · exact (bens_mem ok hi).mpr (.inr ⟨k, h1, hx⟩)
    · have hq := (ok.at_ hi).2 q h1
      exact (bens_mem ok hi).mpr (.inr ⟨q, h1, ih q hq (by omega) h2 hx⟩)
theorem bens_row {rs : List (List Nat)} (ok : rowsOk rs) {i x k : Nat} (hi : i < rs.length) (h : k ∈ (bensF rs).getD i []) (hx : x ∈ rs.getD k []) : x ∈ (bensF rs).getD i [] := by
  have := bens_lt ok hi h
  exact bens_trans ok i hi h ((bens_mem ok (by omega)).mpr (.inl hx))
/-- the ways, gone one by one -/
structure WW (rs : List (List Nat)) (i : Nat) (met wait : List Nat) : Prop where
  nd : met.Nodup
  ms : ∀ x ∈ met, x ∈ (bensF rs).getD i []
  ws : ∀ x ∈ wait, x ∈ (bensF rs).getD i []
  top : ∀ k ∈ rs.getD i [], k ∈ met ∨ k ∈ wait
  cl : ∀ m ∈ met, ∀ k ∈ rs.getD m [], k ∈ met ∨ k ∈ wait
theorem WW.start {rs : List (List Nat)} (ok : rowsOk rs) {i : Nat} (hi : i < rs.length) : WW rs i [] (rs.getD i []) :=
  ⟨List.nodup_nil, by simp, fun x hx => (bens_mem ok hi).mpr (.inl hx), fun k hk => .inr hk, by simp⟩
theorem WW.new {rs : List (List Nat)} (ok : rowsOk rs) {i k : Nat} {met wait : List Nat} (hi : i < rs.length) (w : WW rs i met (wait ++ [k])) (h : k ∉ met) : WW rs i (met ++ [k]) (wait ++ rs.getD k []) := by
  have hk := w.ws k (by simp)
  have mv : ∀ x, x ∈ met ∨ x ∈ wait ++ [k] → x ∈ met ++ [k] ∨ x ∈ wait ++ rs.getD k [] := fun x hx => by
    simp only [List.mem_append, List.mem_singleton] at hx ⊢
    rcases hx with h | h | h
    · exact .inl (.inl h)
    · exact .inr (.inl h)
    · exact .inl (.inr h)
  refine ⟨?_, fun x hx => ?_, fun x hx => ?_, fun x hx => mv x (w.top x hx), fun m hm x hx => ?_⟩
  · rw [List.nodup_append]
    refine ⟨w.nd, by simp, fun a ha b hb e => ?_⟩
    rw [List.mem_singleton] at hb
    subst hb e
    exact h ha
  · rcases List.mem_append.mp hx with h1 | h1
    · exact w.ms x h1
    · rw [List.mem_singleton] at h1
      exact h1 ▸ hk
  · rcases List.mem_append.mp hx with h1 | h1
    · exact w.ws x (by simp [h1])
    · exact bens_row ok hi hk h1
  · rcases List.mem_append.mp hm with h1 | h1
    · exact mv x (w.cl m h1 x hx)
    · rw [List.mem_singleton] at h1
      subst h1
      exact .inr (List.mem_append_right _ hx)
theorem WW.few {rs : List (List Nat)} (ok : rowsOk rs) {i : Nat} {met wait : List Nat} (hi : i < rs.length) (w : WW rs i met wait) : met.length ≤ i :=
  low_len w.nd fun x hx => bens_lt ok hi (w.ms x hx)
theorem rowsOk.nil : rowsOk [] := ⟨fun i r h => by simp at h, by simp⟩
end N
set_option Elab.async false
set_option linter.all false
set_option maxRecDepth 100000
namespace N
open PySem PySem.Spec PyProof.Rows L2
section
variable {X : Cx} {K : PySem.W.Frag}
theorem op_eqEK (hK : X.K = K) (hu : X.A.units + 64 < cLine) : OpR X (compareOp .Eq) (rEqE K) := hK ▸ op_eqE hu
end
def allV (rs : List (List Nat)) (vs : List Bool) : List Bool := rs.foldl (fun acc r => acc ++ [r.all fun k => vs.getD k false && acc.getD k false]) []
theorem allV_snoc (rs : List (List Nat)) (r : List Nat) (vs : List Bool) : allV (rs ++ [r]) vs = allV rs vs ++ [r.all fun k => vs.getD k false && (allV rs vs).getD k false] := by
  unfold allV
  rw [List.foldl_append]
  rfl
theorem allV_len (rs : List (List Nat)) (vs : List Bool) : (allV rs vs).length = rs.length := by
  induction rs using snoc_ind with
  | h0 => rfl
  | h1 rs r ih => rw [allV_snoc, List.length_append, List.length_append, ih]; rfl
theorem allV_row {rs : List (List Nat)} {vs : List Bool} : rowsOk rs → ∀ {i : Nat}, i < rs.length → (allV rs vs).getD i false = (rs.getD i []).all fun k => vs.getD k false && (allV rs vs).getD k false := by
  induction rs using snoc_ind with
  | h0 => intro _ i h; cases h
  | h1 rs r ih =>
    intro ok i hi
    rw [allV_snoc]
    have hl := allV_len rs vs
    rw [List.length_append] at hi
    have hi : i < rs.length + 1 := hi
    have cong : ∀ (l : List Nat), (∀ k ∈ l, k < rs.length) → (l.all fun k => vs.getD k false && (allV rs vs).getD k false) = l.all fun k => vs.getD k false && (allV rs vs ++ [r.all fun k => vs.getD k false && (allV rs vs).getD k false]).getD k false := fun l h => by
      rw [Bool.eq_iff_iff, List.all_eq_true, List.all_eq_true]
      refine forall_congr' fun k => forall_congr' fun hk => ?_
      rw [getD_snoc_lt (by have := h k hk; omega)]
    rcases Nat.lt_or_eq_of_le (Nat.le_of_lt_succ hi) with h | h
    · rw [getD_snoc_lt (by omega), getD_snoc_lt h, ih ok.init h]
      exact cong _ fun k hk => by have := (ok.init.at_ h).2 k hk; omega
    · rw [getD_snoc_eq (by omega), getD_snoc_eq h]
      exact cong _ fun k hk => (ok.asc rs.length r (by simp)).2 k hk
theorem allV_at {rs : List (List Nat)} {vs : List Bool} (ok : rowsOk rs) : ∀ i : Nat, i < rs.length → (allV rs vs).getD i false = ((bensF rs).getD i []).all fun k => vs.getD k false := by
  intro i
  induction i using Nat.strongRecOn with
  | ind i ih =>
    intro hi
    rw [allV_row ok hi, Bool.eq_iff_iff, List.all_eq_true, List.all_eq_true]
    constructor
    · intro h x hx
      rcases (bens_mem ok hi).mp hx with h1 | ⟨k, h1, h2⟩
      · have := h x h1
        rw [Bool.and_eq_true] at this
        exact this.1
      · have hk := (ok.at_ hi).2 k h1
        have := h k h1
        rw [Bool.and_eq_true, ih k hk (by omega), List.all_eq_true] at this
        exact this.2 x h2
    · intro h k hk
      have hki := (ok.at_ hi).2 k hk
      rw [Bool.and_eq_true, ih k hki (by omega), List.all_eq_true]
      exact ⟨h k ((bens_mem ok hi).mpr (.inl hk)), fun x hx => h x ((bens_mem ok hi).mpr (.inr ⟨k, hk, hx⟩))⟩
/-- the values of a formula at the points -/
def Wb.vals (w : Wb) : Fm → List Bool
  | .at c => w.atoms.map fun s => decide (c ∈ lets s)
  | .no => w.below.map fun _ => false
  | .imp a b => List.zipWith (fun x y => !x || y) (w.vals a) (w.vals b)
  | .all a => allV w.below (w.vals a)
theorem Wb.vals_len {w : Wb} (h : w.atoms.length = w.below.length) : ∀ f : Fm, (w.vals f).length = w.below.length
  | .at c => by unfold Wb.vals; rw [List.length_map, h]
  | .no => by unfold Wb.vals; rw [List.length_map]
  | .imp a b => by unfold Wb.vals; rw [List.length_zipWith, vals_len h a, vals_len h b, Nat.min_self]
  | .all a => by unfold Wb.vals; rw [allV_len]
end N
set_option Elab.async false
set_option linter.all false
set_option maxRecDepth 100000
set_option maxHeartbeats 4000000
namespace N
open PySem PySem.Spec PyProof.Rows L2
section
variable {prog : Program} {w : World} {A : Around} {E : Value → Shared → Prop} {s : Shared} {K : PySem.W.Frag} {x C L f : Addr} {h₀ : Heap} {m : Str → Option Value} {ox : Obj} {od : Option Obj} {name nm : Str} {b tb : Value}
theorem ifBound_S {M : Model} {T id : String} {args : List Value} {Q : Option Value → Shared → Prop} (X : K.In s.heap) (I : PySem.W.InstAt s.heap x ox C od) (hs : PySem.W.findIn K (.ref C) name = some (some (.builtin id))) (S : Slot T nm id)
    (h : wpAny M A (call (.builtin id) (.ref x :: args)) (fun v => Q (some v)) E s) : wpAny M A (callSpecialIfBound? (.ref x) name args) Q E s := by
  simp only [callSpecialIfBound?, bindSpecialIfBound?]
  refine wpAny_holding (wpAny_bind (wpAny_bind (wpAny_bind (I.type.here ((PySem.W.looks_findIn X hs).here ?_)))))
  simp only [S.bind]
  refine wpAny_bind (wpAny_askSetting (wpAny_ite ?_))
  have fin : wpAny M A (call (.builtin id) ([.ref x] ++ args) >>= fun v => pure (some v)) Q E s := wpAny_bind (wpAny_mono h (fun v s' h' => wpAny_pure h') fun _ _ h' => h')
  split
  · exact wpAny_bind (wpAny_pure (wpAny_pure fin))
  · exact wpAny_tryCatch (wpAny_bind (wpAny_pure (wpAny_pure fin)))
theorem inst_object (X : K.In s.heap) (I : PySem.W.InstAt s.heap x ox C od) (hm : PySem.W.mroIn K C (.type "object") = some true) {M : Model} : PySem.W.Looks M s.heap (isInstance (.ref x) (.type "object")) true :=
  I.type.andThen (PySem.W.looks_mroIn X hm)
theorem cmp_ne {Q : Value → Shared → Prop} (hu : A.units + 1 < cLine) (X : K.In s.heap) (I : PySem.W.InstAt s.heap x ox C od) (hb : PySem.W.Looks (model prog w) s.heap (typeOf b) tb) (hn : PySem.W.notFirst K C tb = true)
    (hs : PySem.W.findIn K (.ref C) "__ne__" = some (some (.builtin "object.__ne__"))) (hq : PySem.W.findIn K (.ref C) "__eq__" = some (some (.ref f))) (hf : PySem.W.isFn K (.ref f) = true) (hm : PySem.W.mroIn K C (.type "object") = some true)
    (h : wpAny (model prog w) A.in1 (call (.ref f) [.ref x, b]) (fun v s' => ∃ k, v = .bool k ∧ Q (.bool (!k)) s') E s) : wpAny (model prog w) A (richCompare .NotEq (.ref x) b) Q E s := by
  have one : wpAny (model prog w) A (tryCompare (.ref x) (cmpInfo .NotEq).2.1 b) (fun r s' => ∃ v, r = some v ∧ Q v s') E s := by
    unfold tryCompare
    refine wpAny_bind (ifBound_S X I hs F.slot_object_ne (wpAny_call (codeAny_call_builtin F.slot_object_ne.plain F.cmpEntry_ne
      (PySem.W.check_slot F.cmpKind_ne F.cmpSplit_ne (inst_object X I hm) (F.cmpArgs_ne _ _) ?_))))
    unfold Builtin.«object.__ne__»
    repeat (first | with_reducible refine wpAny_cRoomFor hu ?_ | with_reducible refine PySem.W.ifBound_K X I hq hf (wpAny_mono h (fun v s' hv => ?_) fun _ _ e => e) | wp_step)
    obtain ⟨k, rfl, q⟩ := hv
    repeat wp_step
    exact ⟨_, rfl, q⟩
  unfold richCompare
  simp only [oneThing_ref]
  refine wpAny_holding (wpAny_bind (wpAny_cRoomFor (Nat.lt_of_succ_lt hu) ?_))
  refine wpAny_bind (I.type.here (wpAny_bind (hb.here ?_)))
  split
  · rename_i q
    have e : PySem.W.subIn K tb (.ref C) = some false := by
      rcases Bool.or_eq_true_iff.mp hn with e | e
      · rw [beq_iff_eq.mp e] at q; simp at q
      · exact beq_iff_eq.mp e
    refine wpAny_bind ((PySem.W.looks_subIn X e).here ?_)
    simp only [Bool.false_eq_true, if_false]
    refine wpAny_bind (wpAny_mono one (fun r s' z => ?_) fun _ _ e => e)
    obtain ⟨v, rfl, hq⟩ := z
    exact wpAny_pure hq
  · refine wpAny_bind (wpAny_pure ?_)
    simp only [Bool.false_eq_true, if_false]
    refine wpAny_bind (wpAny_mono one (fun r s' z => ?_) fun _ _ e => e)
    obtain ⟨v, rfl, hq⟩ := z
    exact wpAny_pure hq
end
section
variable {X : Cx} {CX : CXT} {k : Nat} {f C : Addr} {fd : FuncData} {ps : List Str} {sp : Sp} {E : XK}
theorem notFirst_self {K : PySem.W.Frag} {C : Addr} : PySem.W.notFirst K C (.ref C) = true := by
  unfold PySem.W.notFirst
  simp
/-- the class has no own __ne__ -/
structure NeC (K : PySem.W.Frag) (C : Addr) : Prop where
  ne : PySem.W.findIn K (.ref C) "__ne__" = some (some (.builtin "object.__ne__"))
  ob : PySem.W.mroIn K C (.type "object") = some true
end
end N
set_option Elab.async false
set_option linter.all false
set_option maxRecDepth 100000
namespace N
open PySem PySem.Spec PyProof.Rows L2
namespace Fm
def sm (f : Fm) : Fm := neg (.all (neg f))
end Fm
theorem no_ok : Fm.okF .no := ⟨trivial, by decide, by decide⟩
theorem vals_at {w : Wb} (hw : w.ok) {f : Fm} {i : Nat} (hi : i < w.below.length) : (w.vals (.all f)).getD i false = ((bensF w.below).getD i []).all fun k => (w.vals f).getD k false := allV_at hw.rows i hi
theorem getD_map {α : Type} {β : Type} {f : α → β} {l : List α} {i : Nat} {d : α} {e : β} (h : i < l.length) : (l.map f).getD i e = f (l.getD i d) := by
  rw [List.getD_eq_getElem?_getD, List.getD_eq_getElem?_getD, List.getElem?_map, List.getElem?_eq_getElem h]
  rfl
theorem getD_zip {α β γ : Type} {f : α → β → γ} {l : List α} {m : List β} {i : Nat} {d : α} {e : β} {z : γ} (h : i < l.length) (h2 : i < m.length) : (List.zipWith f l m).getD i z = f (l.getD i d) (m.getD i e) := by
  rw [List.getD_eq_getElem?_getD, List.getD_eq_getElem?_getD, List.getD_eq_getElem?_getD, List.getElem?_zipWith, List.getElem?_eq_getElem h, List.getElem?_eq_getElem h2]
  rfl
section
variable {w : Wb} (hl : w.atoms.length = w.below.length)
include hl
theorem vals_imp {f g : Fm} {i : Nat} (hi : i < w.below.length) : (w.vals (.imp f g)).getD i false = (!(w.vals f).getD i false || (w.vals g).getD i false) := by
  show (List.zipWith _ _ _).getD i false = _
  rw [getD_zip (d := false) (e := false) (by rw [Wb.vals_len hl]; exact hi) (by rw [Wb.vals_len hl]; exact hi)]
theorem vals_no {i : Nat} (hi : i < w.below.length) : (w.vals .no).getD i false = false := by
  show (w.below.map fun _ => false).getD i false = false
  rw [getD_map (d := []) hi]
end
theorem okF10 {k : Nat} {f : Fm} (h : f.okL) (ht : f.ht ≤ 12) (hf : Fm.few k f) (hk : k ≤ 63) : f.okF := by
  refine ⟨h, ?_, Nat.lt_of_le_of_lt (hf.len h) (by omega)⟩
  have h1 := Fm.sz_ht f
  have h2 : 2 ^ f.ht ≤ 2 ^ 12 := Nat.pow_le_pow_right (by omega) ht
  have e : (2 : Nat) ^ 12 = 4096 := by decide
  omega
/-- drawn formulas -/
structure sm10 (f : Fm) : Prop where
  ok : f.okL
  ht : f.ht ≤ 5
theorem sm10.few {f : Fm} (h : sm10 f) : Fm.few 31 f := (Fm.few_ht f).up (by
  have : (2 : Nat) ^ f.ht ≤ 2 ^ 5 := Nat.pow_le_pow_right (by omega) h.ht
  omega)
theorem sm10.okF {f : Fm} (h : sm10 f) : f.okF := okF10 h.ok (Nat.le_trans h.ht (by decide)) h.few (by decide)
theorem sm10.neg {f : Fm} (h : sm10 f) : (Fm.neg f).okF := okF10 ⟨h.ok, trivial⟩ (by have := h.ht; simp only [Fm.neg, Fm.ht]; omega) (h.few.imp Fm.few.no) (by decide)
theorem sm10.imp {f g : Fm} (h : sm10 f) (k : sm10 g) : (Fm.imp f g).okF := okF10 ⟨h.ok, k.ok⟩ (by have := h.ht; have := k.ht; simp only [Fm.ht]; omega) (h.few.imp k.few) (by decide)
theorem sm10.conj {f g : Fm} (h : sm10 f) (k : sm10 g) : (Fm.conj f g).okF :=
  okF10 ⟨⟨h.ok, k.ok, trivial⟩, trivial⟩ (by have := h.ht; have := k.ht; simp only [Fm.conj, Fm.neg, Fm.ht]; omega) ((h.few.imp (k.few.imp Fm.few.no)).imp Fm.few.no) (by decide)
theorem sm10.sm {f : Fm} (h : sm10 f) : (Fm.sm f).okF :=
  okF10 (show (Fm.sm f).okL from ⟨⟨h.ok, trivial⟩, trivial⟩) (by have := h.ht; simp only [Fm.sm, Fm.neg, Fm.ht]; omega) ((h.few.imp Fm.few.no).all.imp Fm.few.no) (by decide)
theorem sm10.all {f g : Fm} (h : sm10 f) (k : sm10 g) : (Fm.all (.imp f g)).okF :=
  okF10 (show (Fm.all (.imp f g)).okL from ⟨h.ok, k.ok⟩) (by have := h.ht; have := k.ht; simp only [Fm.ht]; omega) (h.few.imp k.few).all (by decide)
end N
set_option Elab.async false
set_option linter.all false
set_option maxRecDepth 100000
namespace N
open PySem PySem.Spec PyProof.Rows L2
/-- the place of a number in a list -/
def idxL : List Nat → Nat → Nat
  | [], _ => 0
  | a :: l, x => if a = x then 0 else idxL l x + 1
/-- a point and all beneath it -/
def keptL (w : Wb) (k : Nat) : List Nat := (bensF w.below).getD k [] ++ [k]
def Wb.cut (w : Wb) (k : Nat) : Wb := ⟨(keptL w k).map fun o => (w.below.getD o []).map (idxL (keptL w k)), (keptL w k).map fun o => w.atoms.getD o ""⟩
def Wb.top (w : Wb) (s : Str) (r : List Nat) : Wb := ⟨w.below ++ [r], w.atoms ++ [s]⟩
def Wb.join (w u : Wb) : Wb := ⟨w.below ++ u.below.map fun r => r.map (w.below.length + ·), w.atoms ++ u.atoms⟩
end N
set_option Elab.async false
set_option linter.all false
set_option maxRecDepth 100000
set_option Elab.async false
set_option linter.all false
set_option maxRecDepth 100000
set_option Elab.async false
set_option linter.all false
set_option maxRecDepth 100000
set_option maxHeartbeats 4000000
namespace N
open PySem PySem.Spec PyProof.Rows L2
def rListX : List V → Hp → VK → Prop := fun vs H Q => ∃ x : Str, vs = [V.str x] ∧ x.length ≤ 5000 ∧ ∀ p, H p = none → Q (.ref p) (upd H p (.lst ((signs x).map V.str)))
theorem cr_listX {X : Cx} (hc : X.calm = true) : CallR X (.type "list") rListX := by
  intro pins s σ H vs us Q I r h
  obtain ⟨x, rfl, hx, q⟩ := h
  obtain ⟨u, rfl, t, rfl⟩ := vals1 r
  have h16 := sizeLine_eq
  refine call_list_str (I.ok.hd hc) x t (fun h' tk acc' c' k hS hI => ?_) (by show x.length ≤ _; omega)
  have hlen : ((signs x).map V.str).length ≤ sizeLine := by
    rw [List.length_map]
    unfold signs
    rw [List.length_map, Array.length_toList]
    show x.length ≤ _
    omega
  have hi : StrsAre acc'.toList (signs x) := by
    refine strsAre_of_get ?_ fun i v hv => ?_
    · unfold signs
      rw [Array.length_toList, hI.1, List.length_map, Array.length_toList]
    · rw [Array.getElem?_toList] at hv
      obtain ⟨c, u, hc, e⟩ := hI.2 i v hv
      refine ⟨⟨#[c]⟩, u, ?_, e⟩
      unfold signs
      rw [List.getElem?_map, Array.getElem?_toList, hc]
      rfl
  have hp : s.heap.objs.size ≤ s.heap.objs.size := Nat.le_refl _
  have hn : H s.heap.objs.size = none := I.hok.fresh hp
  have J : Inv X pins σ (upd H s.heap.objs.size (.lst ((signs x).map V.str))) { s with heap := h', toks := tk } :=
    I.call (ch := []) (Un.laid k hp hn) (I.hok.laid k hp ⟨hlen, acc'.toList, c', vals_of_strs hi, hS⟩) I.bare (fun _ z => nomatch z)
  exact ⟨.ref _, _, J, rfl, q _ hn⟩
section
variable {F : FmKit} {T : Kx} {G : Gm} {W W' : Om} {R : D → Om → Prop} {te : TE} {a : Addr} {od : OD} {d' : D}
theorem ca_listX {x : Str} (hx : x.length ≤ 5000) (r : R (.lst ((lets x).map fun c => .str (sg c))) W) : Ca F T rListX [.str x] W R := ca_one fun C H O di oc ow v k Q q => by
  have k : v = .str x := k
  refine ⟨x, by rw [k], hx, fun p hn => ?_⟩
  obtain ⟨n2, e2, s2⟩ := (Nx.refl (F := F) (T := T) di oc ow).newF (o := .lst ((signs x).map V.str)) hn
  rw [e2]
  refine q _ W _ O _ r n2 ⟨p, _, rfl, upd_same, ?_⟩
  have := den_strs (F := F) (T := T) (H := upd H p (.lst ((signs x).map V.str))) (signs x)
  rwa [show (signs x).map D.str = (lets x).map fun c => D.str (sg c) from by
    rw [show signs x = (lets x).map sg from rfl, List.map_map]
    rfl] at this
end
end N
set_option Elab.async false
set_option linter.all false
set_option maxRecDepth 100000
set_option maxHeartbeats 4000000
set_option Elab.async false
set_option linter.all false
set_option maxRecDepth 100000
set_option maxHeartbeats 1000000
namespace N
open PySem PySem.Spec PyProof.Rows L2
section
variable {X : Cx} {W : WX} {k j : Nat} {C f : Addr} {m : Str} {fd : FuncData} {ps ks : List Str} {sp : Sp} {pins : List (Addr × Obj)} {σ : L2.St} {H : Hp} {s : Shared} {a b o e : Expr} {es : List Expr} {ta tb to te : TE} {t tk : TA} {pos apos : Pos} {gV : List V → List V → List V} {kws : List Keyword}
theorem clsIn_of {K : PySem.W.Frag} {D : Addr} (h : PySem.W.hasDictIn K D = true) : (PySem.W.clsIn K D).isSome = true := by
  obtain ⟨cd, hc, _⟩ := PySem.W.any_some h
  rw [hc]
  rfl
end
end N
set_option Elab.async false
set_option linter.all false
set_option maxRecDepth 100000
set_option maxHeartbeats 1000000
set_option Elab.async false
set_option linter.all false
set_option maxRecDepth 100000
set_option maxHeartbeats 1000000
namespace N
open PySem PySem.Spec PyProof.Rows L2
open C8 (Cal Met Mak InsC pe_c pe_mt pe_mt0 pe_mk)
abbrev tx (f : Fm) : List Nat := lets f.spell
theorem tx_imp (a b : Fm) : tx (.imp a b) = 40 :: (tx a ++ (32 :: 62 :: 32 :: (tx b ++ [41]))) := by
  show lets ((("(" ++ a.spell ++ " > " ++ b.spell ++ ")" : Str))) = _
  simp only [lets, TL.tl_append]
  show (([40] ++ tx a) ++ [32, 62, 32] ++ tx b) ++ [41] = _
  simp
theorem tx_all (a : Fm) : tx (.all a) = 97 :: 108 :: 108 :: 32 :: tx a := by
  show lets ("all " ++ a.spell) = _
  simp only [lets, TL.tl_append]
  rfl
inductive ItP where
  | al | l (b : Fm) | r (a : Fm)
def wt : Fm → Nat
  | .at _ => 1
  | .no => 1
  | .imp a b => 3 + wt a + wt b
  | .all a => 2 + wt a
def wk : List ItP → Nat
  | [] => 0
  | .al :: K => 1 + wk K
  | .l b :: K => 2 + wt b + wk K
  | .r _ :: K => 1 + wk K
abbrev KA := List (ItP × Addr)
def itD : ItP × Addr → D
  | (.al, _) => .str "all"
  | (.l _, q) => .adr q
  | (.r _, q) => .adr q
def stk (K : KA) : List D := (K.map itD).reverse
theorem spell_len : ∀ f : Fm, f.spell.length = f.sz
  | .at _ => rfl
  | .no => rfl
  | .imp a b => by
    have h := congrArg List.length (tx_imp a b)
    have ea := spell_len a
    have eb := spell_len b
    rw [show a.spell.length = (tx a).length from str_len _] at ea
    rw [show b.spell.length = (tx b).length from str_len _] at eb
    rw [show (Fm.imp a b).spell.length = (tx (.imp a b)).length from str_len _, h]
    simp only [List.length_cons, List.length_append, List.length_nil, ea, eb]
    show _ = 5 + a.sz + b.sz
    omega
  | .all a => by
    have h := congrArg List.length (tx_all a)
    have ea := spell_len a
    rw [show a.spell.length = (tx a).length from str_len _] at ea
    rw [show (Fm.all a).spell.length = (tx (.all a)).length from str_len _, h]
    simp only [List.length_cons, ea]
    show _ = 4 + a.sz
    omega
end N
set_option Elab.async false
set_option linter.all false
set_option maxRecDepth 100000
set_option maxHeartbeats 1000000
namespace N
open PySem PySem.Spec PyProof.Rows L2
inductive Tok where
  | form | sg (c : Nat)
def cl (l : List Nat) : Nat := l.count 108
section
variable {F : FmKit} {T : Kx} {W : Om} {R : D → Om → Prop} {l : List D} {ks : List Key}
theorem tyd_non : TyD F T W .non (.type "NoneType") := fun C H O di ow x k => by
  have k : x = .non := k
  subst k
  exact .base .non
theorem tyd_lst : TyD F T W (.lst l) (.type "list") := fun C H O di ow x k => by
  obtain ⟨a, xs, e, hs, kl⟩ := k
  subst e
  exact .base (.lst (di.same _ _ hs))
theorem tyd_dct : TyD F T W (.dct ks l) (.type "dict") := fun C H O di ow x k => by
  obtain ⟨a, kvs, e, hs, _⟩ := k
  subst e
  exact .base (.dK (di.same _ _ hs))
/-- a value that is no text -/
inductive notStr : D → Prop
  | non : notStr .non
  | bl (b : Bool) : notStr (.bl b)
  | int (i : Int) : notStr (.int i)
  | tup (l : List D) : notStr (.tup l)
  | lst (l : List D) : notStr (.lst l)
  | dct (ks : List Key) (l : List D) : notStr (.dct ks l)
theorem isi_notStr {d : D} (h : notStr d) (r : R (.bl false) W) : Ca F T (rIsi T.K) [d, .vl (.ty "str")] W R := by
  cases h with
  | non => exact ca_isi (.ty "str") tyd_non (by unfold PySem.W.kitOne; first | rfl | decide +kernel) r
  | bl b => exact ca_isi (.ty "str") tyd_bl (by unfold PySem.W.kitOne; first | rfl | decide +kernel) r
  | int i => exact ca_isi (.ty "str") tyd_int (by unfold PySem.W.kitOne; first | rfl | decide +kernel) r
  | tup l => exact ca_isi (.ty "str") tyd_tup (by unfold PySem.W.kitOne; first | rfl | decide +kernel) r
  | lst l => exact ca_isi (.ty "str") tyd_lst (by unfold PySem.W.kitOne; first | rfl | decide +kernel) r
  | dct ks l => exact ca_isi (.ty "str") tyd_dct (by unfold PySem.W.kitOne; first | rfl | decide +kernel) r
end
end N
set_option Elab.async false
set_option linter.all false
set_option maxRecDepth 100000
namespace N
open PySem PySem.Spec PyProof.Rows L2
def ltr (c : Nat) : Prop := (65 ≤ c ∧ c ≤ 90) ∨ (97 ≤ c ∧ c ≤ 122)
/-- the letters at a point, some of them by values -/
def keepL (ks : List Nat) (s : Str) : List Nat := (lets s).filter fun c => !decide (c ∈ ks)
def putL (vs : List (Nat × List Bool)) (k : Nat) : List Nat := (vs.filter fun p => p.2.getD k false).map (·.1)
def markS (vs : List (Nat × List Bool)) (k : Nat) (s : Str) : Str := ⟨(ascN (keepL (vs.map (·.1)) s ++ putL vs k)).toArray⟩
def markA (vs : List (Nat × List Bool)) (as : List Str) : List Str := (List.range as.length).map fun k => markS vs k (as.getD k "")
def valsT (w : Wb) (rs : List (Nat × Fm)) : List (Nat × List Bool) := rs.map fun p => (p.1, w.vals p.2)
def Wb.mark (w : Wb) (rs : List (Nat × Fm)) : Wb := ⟨w.below, markA (valsT w rs) w.atoms⟩
theorem valsT_keys (w : Wb) (rs : List (Nat × Fm)) : (valsT w rs).map (·.1) = rs.map (·.1) := by
  unfold valsT
  rw [List.map_map]
  rfl
end N
set_option Elab.async false
set_option linter.all false
set_option maxRecDepth 100000
set_option maxHeartbeats 1000000
namespace N
open PySem PySem.Spec PyProof.Rows L2
open C8 (Cal Met Mak InsC pe_c pe_mt pe_mt0 pe_mk)
def getA {α : Type} (as : List (NestedKey × Addr × α)) (k : NestedKey) : Option α := (as.find? fun z => decide (z.1 = k)).map (·.2.2)
section
variable {X : Cx} {pins : List (Addr × Obj)} {σ : L2.St} {H : Hp} {s : Shared} {p : Addr} {as : List (NestedKey × Addr × V)}
mutual
theorem NkV.is (I : L2.Inv X pins σ H s) : ∀ (k : NestedKey) (v : V) (u : Value), NkV X.K H k v → RelV v u → NestedIs s.heap k u
  | .none, _, u, h, r => by
    have h : _ = V.non := h
    subst h
    obtain rfl : u = .none := r
    exact .none
  | .num i, _, u, h, r => by
    rcases h with h | ⟨b, h, hi⟩
    · subst h
      obtain ⟨t, rfl⟩ := r
      exact .int i t
    · subst h
      obtain rfl : u = .bool b := r
      exact .bool hi
  | .text x, _, u, h, r => by
    have h : _ = V.str x := h
    subst h
    obtain ⟨t, rfl⟩ := r
    exact .text x t
  | .tup ks, _, u, ⟨a, xs, e, hs, hl⟩, r => by
    subst e
    obtain rfl : u = .ref a := r
    obtain ⟨its, r2, ⟨o, ho, hc, n, hd⟩, hz⟩ := I.tuple hs
    exact .tup ho hc hd (by rw [List.toList_toArray]; exact NkL.is I ks xs its hl r2)
theorem NkL.is (I : L2.Inv X pins σ H s) : ∀ (ks : List NestedKey) (xs : List V) (us : List Value), NkL X.K H ks xs → Vals xs us → NestedAll s.heap ks us
  | [], _, us, h, r => by
    have h : _ = [] := h
    subst h
    cases r
    exact .nil
  | k :: ks, _, us, ⟨v, t, e, h1, h2⟩, r => by
    subst e
    cases r with
    | cons r1 r2 => exact .cons (NkV.is I k v _ h1 r1) (NkL.is I ks t _ h2 r2)
end
abbrev NkPd : List (NestedKey × Addr × V) → List (NestedKey × Addr × Value) → Prop := Paired (fun (a : NestedKey × Addr × V) (u : NestedKey × Addr × Value) => a.1 = u.1 ∧ a.2.1 = u.2.1 ∧ RelV a.2.2 u.2.2)
theorem NkPd.keys : ∀ {as : List (NestedKey × Addr × V)} {us : List (NestedKey × Addr × Value)}, NkPd as us → us.map (·.1) = as.map (·.1)
  | [], _, h => by cases h; rfl
  | a :: as, _, h => by
    cases h with
    | cons h1 h2 => rw [List.map_cons, List.map_cons, NkPd.keys h2, h1.1]
theorem NkPd.get {k : NestedKey} : ∀ {as : List (NestedKey × Addr × V)} {us : List (NestedKey × Addr × Value)}, NkPd as us → (atKey us k = none ∧ getA as k = none) ∨ ∃ q v, atKey us k = some q ∧ getA as k = some v ∧ RelV v q.2
  | [], _, h => by cases h; exact .inl ⟨rfl, rfl⟩
  | a :: as, _, h => by
    cases h with
    | cons h1 h2 =>
      rename_i u us
      obtain ⟨e1, e2, e3⟩ := h1
      unfold atKey getA
      rw [List.find?_cons, List.find?_cons, ← e1]
      by_cases e : a.1 = k
      · rw [decide_eq_true e]
        exact .inr ⟨_, _, rfl, rfl, e3⟩
      · rw [decide_eq_false e]
        exact NkPd.get h2
theorem NkPd.mem : ∀ {as : List (NestedKey × Addr × V)} {us : List (NestedKey × Addr × Value)}, NkPd as us → ∀ x ∈ us, ∃ a ∈ as, a.1 = x.1 ∧ a.2.1 = x.2.1
  | [], _, h, x, hx => by cases h; cases hx
  | a :: as, _, h, x, hx => by
    cases h with
    | cons h1 h2 =>
      rcases List.mem_cons.mp hx with rfl | hx
      · exact ⟨a, List.mem_cons_self, h1.1, h1.2.1⟩
      · obtain ⟨b, hb, e⟩ := NkPd.mem h2 x hx
        exact ⟨b, List.mem_cons_of_mem _ hb, e⟩
end
end N
set_option Elab.async false
set_option linter.all false
set_option maxRecDepth 100000
set_option maxHeartbeats 4000000
set_option Elab.async false
set_option linter.all false
set_option maxRecDepth 100000
set_option maxHeartbeats 4000000
set_option Elab.async false
set_option linter.all false
set_option maxRecDepth 100000
set_option maxHeartbeats 1000000
namespace N
open PySem PySem.Spec PyProof.Rows L2
/-- a class: the letters, the classes beneath, the height -/
abbrev Ent := Str × List Nat × Nat
def posE (es : List Ent) (s : Str) (r : List Nat) : Option Nat := es.findIdx? fun e => decide (e.1 = s ∧ e.2.1 = r)
def stepC (w : Wb) (st : List Ent × List Nat) (i : Nat) : List Ent × List Nat :=
  match posE st.1 (w.atoms.getD i "") (ascN (((bensF w.below).getD i []).map fun j => st.2.getD j 0)) with
  | some k => (st.1, st.2 ++ [k])
  | none => (st.1 ++ [(w.atoms.getD i "", ascN (((bensF w.below).getD i []).map fun j => st.2.getD j 0), (hgtF w.below).getD i 0)], st.2 ++ [st.1.length])
/-- the first points of a web -/
def webAt (es : List Ent) (w : Wb) (i : Nat) : List Ent × List Nat := (List.range i).foldl (stepC w) (es, [])
def webCl (es : List Ent) (w : Wb) : List Ent × List Nat := webAt es w w.below.length
def allC (ws : List Wb) : List Ent × List (List Nat) := ws.foldl (fun st w => ((webCl st.1 w).1, st.2 ++ [(webCl st.1 w).2])) ([], [])
theorem webAt_zero (es : List Ent) (w : Wb) : webAt es w 0 = (es, []) := rfl
theorem webAt_succ (es : List Ent) (w : Wb) (i : Nat) : webAt es w (i + 1) = stepC w (webAt es w i) i := by
  unfold webAt
  rw [List.range_succ, List.foldl_append]
  rfl
theorem stepC_old {w : Wb} {st : List Ent × List Nat} {i k : Nat} (h : posE st.1 (w.atoms.getD i "") (ascN (((bensF w.below).getD i []).map fun j => st.2.getD j 0)) = some k) : stepC w st i = (st.1, st.2 ++ [k]) := by
  unfold stepC
  rw [h]
theorem stepC_new {w : Wb} {st : List Ent × List Nat} {i : Nat} (h : posE st.1 (w.atoms.getD i "") (ascN (((bensF w.below).getD i []).map fun j => st.2.getD j 0)) = none) : stepC w st i = (st.1 ++ [(w.atoms.getD i "", ascN (((bensF w.below).getD i []).map fun j => st.2.getD j 0), (hgtF w.below).getD i 0)], st.2 ++ [st.1.length]) := by
  unfold stepC
  rw [h]
theorem webAt_len (es : List Ent) (w : Wb) : ∀ i, (webAt es w i).2.length = i ∧ (webAt es w i).1.length ≤ es.length + i
  | 0 => ⟨rfl, Nat.le_refl _⟩
  | i + 1 => by
    have ⟨h1, h2⟩ := webAt_len es w i
    rw [webAt_succ]
    cases e : posE (webAt es w i).1 (w.atoms.getD i "") (ascN (((bensF w.below).getD i []).map fun j => (webAt es w i).2.getD j 0)) with
    | some k =>
      rw [stepC_old e]
      simp only [List.length_append, List.length_cons, List.length_nil]
      omega
    | none =>
      rw [stepC_new e]
      simp only [List.length_append, List.length_cons, List.length_nil]
      omega
theorem allC_snoc (ws : List Wb) (w : Wb) : allC (ws ++ [w]) = ((webCl (allC ws).1 w).1, (allC ws).2 ++ [(webCl (allC ws).1 w).2]) := by
  unfold allC
  rw [List.foldl_append]
  rfl
theorem posE_snoc {es : List Ent} {s : Str} {r : List Nat} (h : Nat) (hn : posE es s r = none) : posE (es ++ [(s, r, h)]) s r = some es.length := by
  unfold posE at hn ⊢
  rw [List.findIdx?_append, hn]
  simp
end N
set_option Elab.async false
set_option linter.all false
set_option maxRecDepth 100000
set_option maxHeartbeats 1000000
namespace N
open PySem PySem.Spec PyProof.Rows L2
theorem allC_len (ws : List Wb) : (allC ws).2.length = ws.length := by
  induction ws using snoc_ind with
  | h0 => rfl
  | h1 ws w ih => rw [allC_snoc, List.length_append, List.length_append, ih]; rfl
end N
set_option Elab.async false
set_option linter.all false
set_option maxRecDepth 100000
set_option maxHeartbeats 4000000
set_option Elab.async false
set_option linter.all false
set_option maxRecDepth 100000
set_option maxHeartbeats 1000000
namespace N
open PySem PySem.Spec PyProof.Rows L2
/-- the number of a point's class -/
def clsN (ws : List Wb) (i p : Nat) : Nat := ((allC ws).2.getD i []).getD p 0
end N
set_option Elab.async false
set_option linter.all false
set_option maxRecDepth 100000
set_option maxHeartbeats 1000000
namespace N
open PySem PySem.Spec PyProof.Rows L2
theorem posE_app {es : List Ent} {s : Str} {r : List Nat} {k : Nat} (l : List Ent) (h : posE es s r = some k) : posE (es ++ l) s r = some k := by
  unfold posE at h ⊢
  rw [List.findIdx?_append, h]
  rfl
/-- equal places, equal keys -/
theorem posE_inj {es : List Ent} {s s' : Str} {r r' : List Nat} {k : Nat} (h : posE es s r = some k) (h' : posE es s' r' = some k) : s = s' ∧ r = r' := by
  unfold posE at h h'
  obtain ⟨h1, h2, _⟩ := List.findIdx?_eq_some_iff_getElem.mp h
  obtain ⟨h3, h4, _⟩ := List.findIdx?_eq_some_iff_getElem.mp h'
  have h2 := of_decide_eq_true h2
  have h4 := of_decide_eq_true h4
  exact ⟨h2.1.symm.trans h4.1, h2.2.symm.trans h4.2⟩
/-- the key of a point, by numbers -/
def keyA (w : Wb) (ns : List Nat) (p : Nat) : Str × List Nat := (w.atoms.getD p "", ascN (((bensF w.below).getD p []).map fun j => ns.getD j 0))
theorem bens_low {w : Wb} (hw : w.ok) {p : Nat} : ∀ x ∈ (bensF w.below).getD p [], x < p := fun x hx => by
  rw [List.getD_eq_getElem?_getD] at hx
  cases e : (bensF w.below)[p]? with
  | none => rw [e] at hx; simp at hx
  | some b =>
    rw [e] at hx
    exact bensF_low hw.rows p b e x hx
theorem keyA_snoc {w : Wb} (hw : w.ok) (ns : List Nat) (k p : Nat) (hp : p ≤ ns.length) : keyA w (ns ++ [k]) p = keyA w ns p := by
  unfold keyA
  congr 2
  refine List.map_congr_left fun x hx => ?_
  have := bens_low hw x hx
  rw [List.getD_eq_getElem?_getD, List.getD_eq_getElem?_getD, List.getElem?_append_left (by omega)]
/-- what holds of the points that are met -/
theorem webAt_pos {w : Wb} (hw : w.ok) (es : List Ent) : ∀ i, (∃ l, (webAt es w i).1 = es ++ l) ∧ ∀ p, p < i → posE (webAt es w i).1 (keyA w (webAt es w i).2 p).1 (keyA w (webAt es w i).2 p).2 = some ((webAt es w i).2.getD p 0)
  | 0 => ⟨⟨[], by simp [webAt_zero]⟩, fun p h => absurd h (Nat.not_lt_zero _)⟩
  | i + 1 => by
    obtain ⟨⟨l, hl⟩, hp⟩ := webAt_pos hw es i
    obtain ⟨n1, n2⟩ := webAt_len es w i
    rw [webAt_succ]
    have e0 : (w.atoms.getD i "", ascN (((bensF w.below).getD i []).map fun j => (webAt es w i).2.getD j 0)) = keyA w (webAt es w i).2 i := rfl
    cases e : posE (webAt es w i).1 (w.atoms.getD i "") (ascN (((bensF w.below).getD i []).map fun j => (webAt es w i).2.getD j 0)) with
    | some k =>
      rw [stepC_old e]
      refine ⟨⟨l, hl⟩, fun p hlt => ?_⟩
      show posE (webAt es w i).1 (keyA w ((webAt es w i).2 ++ [k]) p).1 (keyA w ((webAt es w i).2 ++ [k]) p).2 = some (((webAt es w i).2 ++ [k]).getD p 0)
      rw [keyA_snoc hw _ _ _ (by omega)]
      by_cases h : p < i
      · rw [hp p h, List.getD_eq_getElem?_getD, List.getD_eq_getElem?_getD, List.getElem?_append_left (by omega)]
      · have h : p = i := by omega
        subst h
        rw [List.getD_eq_getElem?_getD, List.getElem?_append_right (by omega), n1]
        simp only [Nat.sub_self, List.getElem?_cons_zero, Option.getD_some]
        exact e
    | none =>
      rw [stepC_new e]
      refine ⟨⟨l ++ [_], by rw [hl, List.append_assoc]⟩, fun p hlt => ?_⟩
      show posE ((webAt es w i).1 ++ [_]) (keyA w ((webAt es w i).2 ++ [_]) p).1 (keyA w ((webAt es w i).2 ++ [_]) p).2 = some (((webAt es w i).2 ++ [_]).getD p 0)
      rw [keyA_snoc hw _ _ _ (by omega)]
      by_cases h : p < i
      · rw [posE_app _ (hp p h), List.getD_eq_getElem?_getD, List.getD_eq_getElem?_getD, List.getElem?_append_left (by omega)]
      · have h : p = i := by omega
        subst h
        rw [List.getD_eq_getElem?_getD (l := (webAt es w p).2 ++ [(webAt es w p).1.length]), List.getElem?_append_right (by omega), n1]
        simp only [Nat.sub_self, List.getElem?_cons_zero, Option.getD_some]
        exact posE_snoc _ e
theorem allC_pos (ws : List Wb) (hws : ∀ w ∈ ws, w.ok) : ∀ (i : Nat) (w : Wb) (p : Nat), ws[i]? = some w → p < w.below.length → posE (allC ws).1 (keyA w ((allC ws).2.getD i []) p).1 (keyA w ((allC ws).2.getD i []) p).2 = some (clsN ws i p) := by
  induction ws using snoc_ind with
  | h0 => intro i w p h; simp at h
  | h1 ws v ih =>
    intro i w p h hp
    have hl := allC_len ws
    have ih := ih fun w hw => hws w (List.mem_append_left _ hw)
    have hv := hws v (by simp)
    obtain ⟨⟨l, hl2⟩, h2⟩ := webAt_pos hv (allC ws).1 v.below.length
    unfold clsN
    rw [allC_snoc]
    by_cases hi : i < ws.length
    · rw [List.getElem?_append_left hi] at h
      have e : ((allC ws).2 ++ [(webCl (allC ws).1 v).2]).getD i [] = (allC ws).2.getD i [] := by
        rw [List.getD_eq_getElem?_getD, List.getD_eq_getElem?_getD, List.getElem?_append_left (by omega)]
      show posE (webCl (allC ws).1 v).1 (keyA w (((allC ws).2 ++ [(webCl (allC ws).1 v).2]).getD i []) p).1 (keyA w (((allC ws).2 ++ [(webCl (allC ws).1 v).2]).getD i []) p).2 = some ((((allC ws).2 ++ [(webCl (allC ws).1 v).2]).getD i []).getD p 0)
      rw [e]
      have : (webCl (allC ws).1 v).1 = (allC ws).1 ++ l := hl2
      rw [this]
      exact posE_app _ (ih i w p h hp)
    · rw [List.getElem?_append_right (by omega)] at h
      have hi2 : i = ws.length := by
        rcases Nat.lt_or_ge (i - ws.length) 1 with q | q
        · omega
        · rw [List.getElem?_eq_none (by simpa using q)] at h
          cases h
      subst hi2
      have h : v = w := by simpa using h
      subst h
      have e : ((allC ws).2 ++ [(webCl (allC ws).1 v).2]).getD ws.length [] = (webCl (allC ws).1 v).2 := by
        rw [List.getD_eq_getElem?_getD, List.getElem?_append_right (by omega), hl]
        simp
      show posE (webCl (allC ws).1 v).1 (keyA v (((allC ws).2 ++ [(webCl (allC ws).1 v).2]).getD ws.length []) p).1 (keyA v (((allC ws).2 ++ [(webCl (allC ws).1 v).2]).getD ws.length []) p).2 = some ((((allC ws).2 ++ [(webCl (allC ws).1 v).2]).getD ws.length []).getD p 0)
      rw [e]
      exact h2 p hp
/-- two points have one class where the letters and the classes beneath are the same -/
theorem cls_iff {ws : List Wb} (hws : ∀ w ∈ ws, w.ok) {i j p q : Nat} {w v : Wb} (hi : ws[i]? = some w) (hj : ws[j]? = some v) (hp : p < w.below.length) (hq : q < v.below.length) :
    clsN ws i p = clsN ws j q ↔ w.atoms.getD p "" = v.atoms.getD q "" ∧ ∀ x, (∃ a ∈ (bensF w.below).getD p [], clsN ws i a = x) ↔ (∃ b ∈ (bensF v.below).getD q [], clsN ws j b = x) := by
  have h1 := allC_pos ws hws i w p hi hp
  have h2 := allC_pos ws hws j v q hj hq
  have asc : ∀ {a b : List Nat}, ascN a = ascN b ↔ ∀ x, x ∈ a ↔ x ∈ b := fun {a b} => by
    constructor
    · intro e x
      rw [← mem_ascN, e, mem_ascN]
    · intro h
      exact ascN_ext (asc_ascN a) (asc_ascN b) fun x => by rw [mem_ascN, mem_ascN, h]
  have mm : ∀ (w : Wb) (i p x : Nat), x ∈ (((bensF w.below).getD p []).map fun j => ((allC ws).2.getD i []).getD j 0) ↔ ∃ a ∈ (bensF w.below).getD p [], clsN ws i a = x := fun w i p x => by
    rw [List.mem_map]
    exact Iff.rfl
  constructor
  · intro e
    rw [e] at h1
    obtain ⟨g1, g2⟩ := posE_inj h1 h2
    refine ⟨g1, fun x => ?_⟩
    rw [← mm, ← mm]
    exact asc.mp g2 x
  · rintro ⟨g1, g2⟩
    have e1 : (keyA w ((allC ws).2.getD i []) p).1 = (keyA v ((allC ws).2.getD j []) q).1 := g1
    have e2 : (keyA w ((allC ws).2.getD i []) p).2 = (keyA v ((allC ws).2.getD j []) q).2 := asc.mpr fun x => by rw [mm, mm]; exact g2 x
    rw [e1, e2, h2] at h1
    exact (Option.some.inj h1).symm
end N
set_option Elab.async false
set_option linter.all false
set_option maxRecDepth 100000
set_option maxHeartbeats 1000000
namespace N
open PySem PySem.Spec PyProof.Rows L2
structure Bis (u w : Wb) (R : Nat → Nat → Prop) : Prop where
  dom : ∀ i p, R i p → i < u.below.length ∧ p < w.below.length
  at_ : ∀ i p, R i p → u.atoms.getD i "" = w.atoms.getD p ""
  forth : ∀ i p, R i p → ∀ a ∈ (bensF u.below).getD i [], ∃ b ∈ (bensF w.below).getD p [], R a b
  back : ∀ i p, R i p → ∀ b ∈ (bensF w.below).getD p [], ∃ a ∈ (bensF u.below).getD i [], R a b
theorem vals_atom {w : Wb} (hw : w.ok) {c i : Nat} (hi : i < w.below.length) : (w.vals (.at c)).getD i false = decide (c ∈ lets (w.atoms.getD i "")) := by
  have hl := hw.len
  show (w.atoms.map fun s => decide (c ∈ lets s)).getD i false = _
  rw [getD_map (f := fun s : PySem.Str => decide (c ∈ lets s)) (l := w.atoms) (d := ("" : PySem.Str)) (by omega)]
section
variable {u w : Wb} {R : Nat → Nat → Prop} (hu : u.ok) (hw : w.ok) (B : Bis u w R)
include hu hw B
theorem Bis.vals : ∀ (f : Fm) (i p : Nat), R i p → (u.vals f).getD i false = (w.vals f).getD p false
  | .at c, i, p, r => by
    obtain ⟨h1, h2⟩ := B.dom i p r
    rw [vals_atom hu h1, vals_atom hw h2, B.at_ i p r]
  | .no, i, p, r => by
    obtain ⟨h1, h2⟩ := B.dom i p r
    rw [vals_no hu.len h1, vals_no hw.len h2]
  | .imp f g, i, p, r => by
    obtain ⟨h1, h2⟩ := B.dom i p r
    rw [vals_imp hu.len h1, vals_imp hw.len h2, Bis.vals f i p r, Bis.vals g i p r]
  | .all f, i, p, r => by
    obtain ⟨h1, h2⟩ := B.dom i p r
    rw [vals_at hu h1, vals_at hw h2, Bool.eq_iff_iff, List.all_eq_true, List.all_eq_true]
    constructor
    · intro h b hb
      obtain ⟨a, ha, r2⟩ := B.back i p r b hb
      rw [← Bis.vals f a b r2]
      exact h a ha
    · intro h a ha
      obtain ⟨b, hb, r2⟩ := B.forth i p r a ha
      rw [Bis.vals f a b r2]
      exact h b hb
theorem Bis.cls {i p : Nat} (r : R i p) : clsN [u, w] 0 i = clsN [u, w] 1 p := by
  have hws : ∀ x ∈ [u, w], x.ok := by simp [hu, hw]
  let Q : Nat → Nat → Nat → Nat → Prop := fun i p j q => i = 0 ∧ j = 1 ∧ R p q
  have key : ∀ m p q, p < m → R p q → clsN [u, w] 0 p = clsN [u, w] 1 q := by
    intro m
    induction m with
    | zero => intro p q h; exact absurd h (Nat.not_lt_zero _)
    | succ m ih =>
      intro p q hm r
      obtain ⟨h1, h2⟩ := B.dom p q r
      refine (cls_iff hws (i := 0) (j := 1) rfl rfl h1 h2).mpr ⟨B.at_ p q r, fun x => ⟨?_, ?_⟩⟩
      · rintro ⟨a, ha, e⟩
        obtain ⟨b, hb, r2⟩ := B.forth p q r a ha
        have := bens_low hu a ha
        exact ⟨b, hb, by rw [← e, ih a b (by omega) r2]⟩
      · rintro ⟨b, hb, e⟩
        obtain ⟨a, ha, r2⟩ := B.back p q r b hb
        have := bens_low hu a ha
        exact ⟨a, ha, by rw [← e, ih a b (by omega) r2]⟩
  exact key (i + 1) i p (Nat.lt_succ_self _) r
end
/-- what is marked at a point -/
theorem lets_markS {vs : List (Nat × List Bool)} {k : Nat} {s : Str} {c : Nat} : c ∈ lets (markS vs k s) ↔ (c ∈ lets s ∧ c ∉ vs.map (·.1)) ∨ ∃ x ∈ vs, x.1 = c ∧ x.2.getD k false = true := by
  show c ∈ ascN _ ↔ _
  rw [mem_ascN, List.mem_append]
  refine or_congr ?_ ?_
  · unfold keepL
    rw [List.mem_filter]
    simp
  · unfold putL
    rw [List.mem_map]
    constructor
    · rintro ⟨x, hx, e⟩
      obtain ⟨h1, h2⟩ := List.mem_filter.mp hx
      exact ⟨x, h1, e, h2⟩
    · rintro ⟨x, hx, e, h⟩
      exact ⟨x, List.mem_filter.mpr ⟨hx, h⟩, e⟩
theorem markS_ext {vs us : List (Nat × List Bool)} {k j : Nat} {s : Str} (hk : ∀ c, c ∈ vs.map (·.1) ↔ c ∈ us.map (·.1)) (hv : ∀ c, (∃ x ∈ vs, x.1 = c ∧ x.2.getD k false = true) ↔ ∃ x ∈ us, x.1 = c ∧ x.2.getD j false = true) : markS vs k s = markS us j s := by
  have e : ascN (keepL (vs.map (·.1)) s ++ putL vs k) = ascN (keepL (us.map (·.1)) s ++ putL us j) := ascN_ext (asc_ascN _) (asc_ascN _) fun c => by
    have h1 := lets_markS (vs := vs) (k := k) (s := s) (c := c)
    have h2 := lets_markS (vs := us) (k := j) (s := s) (c := c)
    have h1 : c ∈ ascN (keepL (vs.map (·.1)) s ++ putL vs k) ↔ _ := h1
    have h2 : c ∈ ascN (keepL (us.map (·.1)) s ++ putL us j) ↔ _ := h2
    rw [h1, h2, hk c, hv c]
  unfold markS
  rw [e]
theorem mark_at {w : Wb} {rs : List (Nat × Fm)} {i : Nat} (hi : i < w.atoms.length) : (w.mark rs).atoms.getD i "" = markS (valsT w rs) i (w.atoms.getD i "") := by
  show (markA (valsT w rs) w.atoms).getD i "" = _
  unfold markA
  rw [List.getD_eq_getElem?_getD, List.getElem?_map, List.getElem?_range hi]
  rfl
/-- marks at points that see the same -/
theorem mark_pts {u w : Wb} {i p : Nat} {rs qs : List (Nat × Fm)} (hi : i < u.atoms.length) (hp : p < w.atoms.length) (ha : u.atoms.getD i "" = w.atoms.getD p "") (hm : ∀ x, x ∈ rs ↔ x ∈ qs) (hv : ∀ f, (u.vals f).getD i false = (w.vals f).getD p false) : (u.mark rs).atoms.getD i "" = (w.mark qs).atoms.getD p "" := by
  rw [mark_at hi, mark_at hp, ha]
  refine markS_ext (fun c => ?_) fun c => ?_
  · rw [valsT_keys, valsT_keys, List.mem_map, List.mem_map]
    exact ⟨fun ⟨x, hx, e⟩ => ⟨x, (hm x).mp hx, e⟩, fun ⟨x, hx, e⟩ => ⟨x, (hm x).mpr hx, e⟩⟩
  · unfold valsT
    constructor
    · rintro ⟨y, hy, e, h⟩
      obtain ⟨x, hx, rfl⟩ := List.mem_map.mp hy
      exact ⟨_, List.mem_map.mpr ⟨x, (hm x).mp hx, rfl⟩, e, by rw [← hv]; exact h⟩
    · rintro ⟨y, hy, e, h⟩
      obtain ⟨x, hx, rfl⟩ := List.mem_map.mp hy
      exact ⟨_, List.mem_map.mpr ⟨x, (hm x).mpr hx, rfl⟩, e, by rw [hv]; exact h⟩
theorem Bis.mark {u w : Wb} {R : Nat → Nat → Prop} (hu : u.ok) (hw : w.ok) (B : Bis u w R) {rs qs : List (Nat × Fm)} (hm : ∀ x, x ∈ rs ↔ x ∈ qs) : Bis (u.mark rs) (w.mark qs) R :=
  ⟨B.dom, fun i p r => mark_pts (by rw [hu.len]; exact (B.dom i p r).1) (by rw [hw.len]; exact (B.dom i p r).2) (B.at_ i p r) hm fun f => B.vals hu hw f i p r, B.forth, B.back⟩
end N
set_option Elab.async false
set_option linter.all false
set_option maxRecDepth 100000
set_option maxHeartbeats 1000000
set_option Elab.async false
set_option linter.all false
set_option maxRecDepth 100000
set_option maxHeartbeats 1000000
set_option Elab.async false
set_option linter.all false
set_option maxRecDepth 100000
set_option maxHeartbeats 1000000
set_option Elab.async false
set_option linter.all false
set_option maxRecDepth 100000
set_option maxHeartbeats 1000000
namespace N
open PySem PySem.Spec PyProof.Rows L2
open C8 (Cal Met Mak InsC pe_c pe_mt pe_mt0 pe_mk)
open TL (numL numL_lt numL_step numL_digits numL_ne int_num split_join joinL tl_join join_eq tl_num)
theorem str_lets (x : Str) : x.length = (lets x).length := str_len x
/-- a number's text -/
def numS (n : Nat) : Str := Str.ofString (toString ((n : Nat) : Int))
theorem numS_lets (n : Nat) : lets (numS n) = numL n := tl_num n
theorem numL_two {n : Nat} (h : 10 ≤ n) (h2 : n < 100) : numL n = [48 + n / 10, 48 + n % 10] := by
  rw [numL_step h, numL_lt (by omega)]
  rfl
theorem numS_len {n : Nat} (h : n < 100) : (numS n).length ≤ 2 ∧ (numS n).length ≠ 0 := by
  rw [str_lets, numS_lets]
  by_cases h2 : n < 10
  · rw [numL_lt h2]
    simp
  · rw [numL_two (by omega) h]
    simp
/-- the word of the letters -/
def wordL (s : Str) : Str := if s = "" then "-" else s
def lineL (s : Str) (r : List Nat) : List Str := wordL s :: r.map numS
def lineS (s : Str) (r : List Nat) : Str := Txt.join " " (lineL s r)
def Wb.lines (w : Wb) : List Str := List.zipWith lineS w.atoms w.below
def Wb.text (w : Wb) : Str := Txt.join "\n" w.lines
theorem sum_len {ps : List Str} {n : Nat} (h : ∀ p ∈ ps, p.length ≤ n) : (ps.map (·.length)).sum ≤ ps.length * n := by
  induction ps with
  | nil => simp
  | cons p ps ih =>
    have h1 := h p List.mem_cons_self
    have h2 := ih fun z hz => h z (List.mem_cons_of_mem _ hz)
    rw [List.map_cons, List.sum_cons, List.length_cons, Nat.add_mul, Nat.one_mul]
    omega
theorem word_len {s : Str} (h : s.length ≤ 100) : (wordL s).length ≤ 100 := by
  unfold wordL
  split
  · decide
  · exact h
structure LineOk (s : Str) (r : List Nat) : Prop where
  lets : letters s
  asc : (N.lets s).Pairwise (· < ·)
  few : r.length ≤ 63
  low : ∀ k ∈ r, k < 63
theorem LineOk.len {s : Str} {r : List Nat} (h : LineOk s r) : s.length ≤ 100 := letters_len h.lets h.asc
theorem LineOk.part {s : Str} {r : List Nat} (h : LineOk s r) : ∀ p ∈ lineL s r, p.length ≤ 100 := fun p hp => by
  rcases List.mem_cons.mp hp with rfl | hp
  · exact word_len h.len
  · obtain ⟨n, hn, rfl⟩ := List.mem_map.mp hp
    have := (numS_len (n := n) (by have := h.low n hn; omega)).1
    omega
theorem LineOk.parts {s : Str} {r : List Nat} (h : LineOk s r) : (lineL s r).length ≤ 64 := by
  have := h.few
  simp [lineL]
  omega
theorem LineOk.sum {s : Str} {r : List Nat} (h : LineOk s r) : ((lineL s r).map (·.length)).sum + (lineL s r).length * (" " : Str).length ≤ 16777216 := by
  have h1 := sum_len h.part
  have h2 := h.parts
  have h3 : (" " : Str).length = 1 := rfl
  rw [h3]
  have := Nat.mul_le_mul_right 100 h2
  omega
theorem Wb.ok.line {w : Wb} (hw : w.ok) {i : Nat} {s : Str} {r : List Nat} (h1 : w.atoms[i]? = some s) (h2 : w.below[i]? = some r) : LineOk s r where
  lets := (hw.lets s (List.mem_of_getElem? h1)).1
  asc := (hw.lets s (List.mem_of_getElem? h1)).2
  few := by
    obtain ⟨a, b⟩ := hw.rows.asc i r h2
    have h3 := low_len (a.imp fun h => Nat.ne_of_lt h) b
    have := hw.rows.few
    have := (List.getElem?_eq_some_iff.mp h2).1
    omega
  low := fun k hk => by
    have h3 := (hw.rows.asc i r h2).2 k hk
    have := hw.rows.few
    have := (List.getElem?_eq_some_iff.mp h2).1
    omega
end N
namespace N
open PySem PySem.Spec PyProof.Rows L2
theorem strOk_low {s : Str} (h : ∀ c ∈ lets s, c < 200) : PyData.strOk s = true := by
  unfold PyData.strOk
  simp only [Array.all_eq_true, decide_eq_true_eq]
  intro i hi
  have := h s.cps[i] (by simp [lets])
  omega
end N
set_option Elab.async false
set_option linter.all false
set_option maxRecDepth 100000
set_option maxHeartbeats 1000000
namespace N
open PySem PySem.Spec PyProof.Rows L2
abbrev Mk15 := Sum Str Nat
abbrev mk0 : Mk15 := .inr 0
end N
set_option Elab.async false
set_option linter.all false
set_option maxRecDepth 100000
set_option maxHeartbeats 1000000
set_option Elab.async false
set_option linter.all false
set_option maxRecDepth 100000
set_option maxHeartbeats 1000000
set_option Elab.async false
set_option linter.all false
set_option maxRecDepth 100000
set_option maxHeartbeats 1000000
namespace N
open PySem PySem.Spec PyProof.Rows L2
theorem some_of {α : Type} {l : List α} {i : Nat} {d : α} (h : i < l.length) : l[i]? = some (l.getD i d) := by
  rw [List.getD_eq_getElem?_getD, List.getElem?_eq_getElem h]
  rfl
end N
set_option Elab.async false
set_option linter.all false
set_option maxRecDepth 100000
set_option maxHeartbeats 4000000
set_option Elab.async false
set_option linter.all false
set_option maxRecDepth 100000
set_option maxHeartbeats 1000000
set_option Elab.async false
set_option linter.all false
set_option maxRecDepth 100000
set_option maxHeartbeats 1000000
namespace N
open PySem PySem.Spec PyProof.Rows L2
theorem Bis.symm {u w : Wb} {R : Nat → Nat → Prop} (B : Bis u w R) : Bis w u fun p i => R i p :=
  ⟨fun p i r => (B.dom i p r).symm, fun p i r => (B.at_ i p r).symm, fun p i r => B.back i p r, fun p i r => B.forth i p r⟩
theorem Bis.comp {u v w : Wb} {R S : Nat → Nat → Prop} (B : Bis u v R) (C : Bis v w S) : Bis u w fun i p => ∃ j, R i j ∧ S j p :=
  ⟨fun i p ⟨j, r, s⟩ => ⟨(B.dom i j r).1, (C.dom j p s).2⟩, fun i p ⟨j, r, s⟩ => (B.at_ i j r).trans (C.at_ j p s), fun i p ⟨j, r, s⟩ a ha => by
    obtain ⟨b, hb, r2⟩ := B.forth i j r a ha
    obtain ⟨c, hc, s2⟩ := C.forth j p s b hb
    exact ⟨c, hc, b, r2, s2⟩, fun i p ⟨j, r, s⟩ c hc => by
    obtain ⟨b, hb, s2⟩ := C.back j p s c hc
    obtain ⟨a, ha, r2⟩ := B.back i j r b hb
    exact ⟨a, ha, b, r2, s2⟩⟩
end N
set_option Elab.async false
set_option linter.all false
set_option maxRecDepth 100000
set_option maxHeartbeats 1000000
namespace N
open PySem PySem.Spec PyProof.Rows L2
structure rlOk (rs : List (Nat × Fm)) : Prop where
  some_ : rs ≠ []
  few : rs.length ≤ 4
  asc : (rs.map (·.1)).Pairwise (· < ·)
  cap : ∀ p ∈ rs, 65 ≤ p.1 ∧ p.1 ≤ 90
  form : ∀ p ∈ rs, p.2.okF
  bare : ∀ p ∈ rs, ∀ c ∈ lets p.2.outer, c ∉ rs.map (·.1)
end N
set_option Elab.async false
set_option linter.all false
set_option maxRecDepth 100000
set_option maxHeartbeats 1000000
set_option Elab.async false
set_option linter.all false
set_option maxRecDepth 100000
set_option maxHeartbeats 1000000
set_option linter.all false
namespace N
open PySem L2
/-- no built-in value is of this class -/
structure NotC (K : PySem.W.Frag) (C : Addr) : Prop where
  non : PySem.W.kitOne K (.type "NoneType") (.ref C) = some false
  bl : PySem.W.kitOne K (.type "bool") (.ref C) = some false
  int : PySem.W.kitOne K (.type "int") (.ref C) = some false
  tup : PySem.W.kitOne K (.type "tuple") (.ref C) = some false
  lst : PySem.W.kitOne K (.type "list") (.ref C) = some false
  dct : PySem.W.kitOne K (.type "dict") (.ref C) = some false
end N
set_option Elab.async false
set_option linter.all false
set_option maxRecDepth 100000
set_option maxHeartbeats 1000000
namespace N
open PySem PySem.Spec PyProof.Rows L2
section
variable {F : FmKit} {T : Kx} {G : Gm} {W : Om} {En1 : En} {S : FX} {W0 : WX} {ex : EX} {ta tb tv : TE} {R : D → Om → Prop}
theorem isi_notC {c : Nat} {d : D} (z : NotC T.K (T.cl c)) (h : notStr d) (r : R (.bl false) W) : Ca F T (rIsi T.K) [d, .adr (T.cl c)] W R := by
  cases h with
  | non => exact ca_isi (.own _) tyd_non z.non r
  | bl b => exact ca_isi (.own _) tyd_bl z.bl r
  | int i => exact ca_isi (.own _) tyd_int z.int r
  | tup l => exact ca_isi (.own _) tyd_tup z.tup r
  | lst l => exact ca_isi (.own _) tyd_lst z.lst r
  | dct ks l => exact ca_isi (.own _) tyd_dct z.dct r
end
end N
set_option Elab.async false
set_option linter.all false
set_option maxRecDepth 100000
set_option maxHeartbeats 1000000
set_option Elab.async false
set_option linter.all false
set_option maxRecDepth 100000
set_option maxHeartbeats 1000000
set_option Elab.async false
set_option linter.all false
set_option maxRecDepth 100000
set_option maxHeartbeats 1000000
namespace N
open PySem PySem.Spec PyProof.Rows L2
section
variable {F : FmKit} {T : Kx} {C H H' O O' : Hp} {W W' : Om} {R : D → Om → Prop}
theorem grown (di : Dis O H) (oc : Same C O) (ow : Ow F T H C O W) {H1 : Hp} (e : Ext (ov O H) H1) : ∃ H2, H1 = ov O H2 ∧ Nx F T C W H H2 O := by
  have s1 : Same O H1 := fun a o h => e _ _ (ov_own h)
  have s2 : Same H (minus H1 O) := fun a o h => by
    unfold minus
    rw [di.fro h]
    exact e _ _ (di.same _ _ h)
  exact ⟨minus H1 O, (ov_minus s1).symm, s2, dis_minus, oc, ow.mono s2⟩
end
end N
set_option linter.all false
set_option maxRecDepth 100000
set_option Elab.async false
set_option linter.all false
set_option maxRecDepth 100000
set_option Elab.async false
set_option linter.all false
set_option maxRecDepth 100000
namespace N
open PySem PySem.Spec PyProof.Rows L2
namespace Fm
/-- ifs within one another -/
def dep : Fm → Nat
  | .imp a b => 1 + max a.dep b.dep
  | _ => 0
end Fm
end N
set_option Elab.async false
set_option linter.all false
set_option maxRecDepth 100000
set_option maxHeartbeats 1000000
set_option Elab.async false
set_option linter.all false
set_option maxRecDepth 100000
set_option maxHeartbeats 1000000
namespace N
open PySem PySem.Spec PyProof.Rows L2
namespace Fm
/-- a tree over letters outside and letters within -/
def Frm : Fm → Str → Str → Prop
  | .at c, p, _ => c ∈ lets p
  | .no, _, _ => True
  | .imp a b, p, q => Frm a p q ∧ Frm b p q
  | .all a, p, q => Frm a (p ++ q ++ q) ""
theorem frm_bare : ∀ {f : Fm}, Frm f "" "" → f.bare
  | .at c, h => by
    have h : c ∈ lets ("" : Str) := h
    rw [show lets ("" : Str) = [] from rfl] at h
    cases h
  | .no, _ => trivial
  | .imp a b, h => ⟨frm_bare h.1, frm_bare h.2⟩
  | .all a, h => frm_bare (f := a) h
theorem few_many : ∀ f : Fm, few f.many f
  | .at c => (few.at c).up (Nat.zero_le _)
  | .no => few.no.up (Nat.zero_le _)
  | .imp a b => ((few_many a).imp (few_many b)).up (by simp only [many]; omega)
  | .all a => (few_many a).all.up (by simp only [many]; omega)
theorem sz_many : ∀ f : Fm, f.sz ≤ 5 * f.many
  | .at c => by simp [sz, many]
  | .no => by simp [sz, many]
  | .imp a b => by have := sz_many a; have := sz_many b; simp only [sz, many]; omega
  | .all a => by have := sz_many a; simp only [sz, many]; omega
theorem ht_many : ∀ f : Fm, f.ht < f.many
  | .at c => by simp [ht, many]
  | .no => by simp [ht, many]
  | .imp a b => by have := ht_many a; have := ht_many b; simp only [ht, many]; omega
  | .all a => by have := ht_many a; simp only [ht, many]; omega
/-- towers of alls -/
def belo : Nat → Fm
  | 0 => .no
  | n + 1 => .all (belo n)
theorem belo_few : ∀ n, few n (belo n)
  | 0 => few.no
  | n + 1 => (belo_few n).all
theorem belo_sz : ∀ n, (belo n).sz = 4 * n + 2
  | 0 => rfl
  | n + 1 => by simp only [belo, sz, belo_sz n]; omega
theorem belo_ht : ∀ n, (belo n).ht = n
  | 0 => rfl
  | n + 1 => by simp only [belo, ht, belo_ht n]; omega
theorem belo_bare : ∀ n, (belo n).bare
  | 0 => trivial
  | n + 1 => belo_bare n
/-- small formulas without atoms -/
structure H (n s t : Nat) (f : Fm) : Prop where
  bare : f.bare
  few : few n f
  sz : f.sz ≤ s
  ht : f.ht ≤ t
theorem H.up {n s t n' s' t' : Nat} {f : Fm} (h : H n s t f) (h1 : n ≤ n') (h2 : s ≤ s') (h3 : t ≤ t') : H n' s' t' f := ⟨h.bare, h.few.up h1, Nat.le_trans h.sz h2, Nat.le_trans h.ht h3⟩
theorem H.belo (n : Nat) : H n (4 * n + 2) n (belo n) := ⟨belo_bare n, belo_few n, Nat.le_of_eq (belo_sz n), Nat.le_of_eq (belo_ht n)⟩
theorem H.no : H 0 2 0 .no := ⟨trivial, few.no, Nat.le_refl _, Nat.le_refl _⟩
theorem H.imp {n s t n' s' t' : Nat} {f g : Fm} (h : H n s t f) (k : H n' s' t' g) : H (n + n') (5 + s + s') (1 + max t t') (.imp f g) := ⟨⟨h.bare, k.bare⟩, h.few.imp k.few, by have := h.sz; have := k.sz; simp only [Fm.sz]; omega, by have := h.ht; have := k.ht; simp only [Fm.ht]; omega⟩
theorem H.all {n s t : Nat} {f : Fm} (h : H n s t f) : H (n + 1) (4 + s) (1 + t) (.all f) := ⟨h.bare, h.few.all, by have := h.sz; simp only [Fm.sz]; omega, by have := h.ht; simp only [Fm.ht]; omega⟩
theorem H.neg {n s t : Nat} {f : Fm} (h : H n s t f) : H n (7 + s) (1 + t) (neg f) := (h.imp H.no).up (by omega) (by omega) (by omega)
abbrev H26 (f : Fm) : Prop := H 40 1000 50 f
theorem H.okF {f : Fm} (h : H26 f) : f.okF := ⟨bare_ok h.bare, by have := h.sz; omega, by have := h.few.len (bare_ok h.bare); omega⟩
theorem H.tree {f : Fm} (h : Frm f "" "") (hm : f.many ≤ 40) : H26 f := ⟨frm_bare h, (few_many f).up hm, by have := sz_many f; omega, by have := ht_many f; omega⟩
end Fm
def S_atom : FS := fun ds W post => ∃ c : Nat, ds = [.str (sg c)] ∧ W = [] ∧ (Fm.at c).okL ∧ post (.fm (.at c)) []
end N
set_option Elab.async false
set_option linter.all false
set_option maxRecDepth 100000
set_option maxHeartbeats 1000000
namespace N
open PySem PySem.Spec PyProof.Rows L2
namespace Fm
theorem mem_belo : ∀ {k : Nat} {g : Fm}, g ∈ (belo k).alls → ∃ i, i < k ∧ g = belo (i + 1)
  | 0, g, h => by simp [belo, alls] at h
  | k + 1, g, h => by
    rcases mem_merge.mp h with h | h
    · obtain ⟨i, hi, e⟩ := mem_belo h
      exact ⟨i, by omega, e⟩
    · rw [List.mem_singleton] at h
      exact ⟨k, by omega, h⟩
/-- no other all-parts than the first sixty-one towers -/
structure Q (s d : Nat) (f : Fm) : Prop where
  bare : f.bare
  alls : ∀ g ∈ f.alls, ∃ i, i < 61 ∧ g = belo (i + 1)
  sz : f.sz ≤ s
  dep : f.dep ≤ d
theorem Q.belo {k : Nat} (h : k ≤ 61) : Q (4 * k + 2) 0 (belo k) := ⟨belo_bare k, fun g hg => let ⟨i, hi, e⟩ := mem_belo hg; ⟨i, by omega, e⟩, Nat.le_of_eq (belo_sz k), by cases k <;> exact Nat.le_refl _⟩
theorem Q.no : Q 2 0 .no := ⟨trivial, fun g h => by simp [Fm.alls] at h, Nat.le_refl _, Nat.le_refl _⟩
theorem Q.imp {s d s' d' : Nat} {f g : Fm} (h : Q s d f) (k : Q s' d' g) : Q (5 + s + s') (1 + max d d') (.imp f g) :=
  ⟨⟨h.bare, k.bare⟩, fun x hx => (mem_merge.mp hx).elim (h.alls x) (k.alls x), by have := h.sz; have := k.sz; simp only [Fm.sz]; omega, by have := h.dep; have := k.dep; simp only [Fm.dep]; omega⟩
theorem Q.up {s d s' d' : Nat} {f : Fm} (h : Q s d f) (hs : s ≤ s') (hd : d ≤ d') : Q s' d' f := ⟨h.bare, h.alls, Nat.le_trans h.sz hs, Nat.le_trans h.dep hd⟩
theorem Q.neg {s d : Nat} {f : Fm} (h : Q s d f) : Q (7 + s) (1 + d) (neg f) := (h.imp Q.no).up (by omega) (by omega)
theorem Q.conj {s d s' d' : Nat} {f g : Fm} (h : Q s d f) (k : Q s' d' g) : Q (20 + s + s') (3 + max d d') (conj f g) := ((h.imp k.neg).neg).up (by omega) (by omega)
theorem Q.few {s d : Nat} {f : Fm} (h : Q s d f) : f.alls.length ≤ 61 := by
  have h1 := len_le (nodup_asc (alls_sub (bare_ok h.bare)).2) (m := (List.range 61).map fun i => Fm.belo (i + 1)) fun x hx => by
    obtain ⟨i, hi, e⟩ := h.alls x hx
    exact List.mem_map.mpr ⟨i, by simpa using hi, e.symm⟩
  simpa using h1
theorem Q.okF {s d : Nat} {f : Fm} (h : Q s d f) (hs : s ≤ 1000000) : f.okF := ⟨bare_ok h.bare, Nat.le_trans h.sz hs, by have := h.few; omega⟩
/-- just at one height -/
def one (h : Nat) : Fm := conj (belo (h + 1)) (neg (belo h))
theorem Q.one {h : Nat} (hh : h ≤ 60) : Q (40 + 8 * h) 4 (one h) := ((Q.belo (by omega)).conj (Q.belo (by omega)).neg).up (by omega) (by omega)
end Fm
end N
set_option Elab.async false
set_option linter.all false
set_option maxRecDepth 100000
set_option maxHeartbeats 1000000
set_option Elab.async false
set_option linter.all false
set_option maxRecDepth 100000
set_option maxHeartbeats 1000000
set_option Elab.async false
set_option linter.all false
set_option maxRecDepth 100000
set_option maxHeartbeats 1000000
set_option Elab.async false
set_option linter.all false
set_option maxRecDepth 100000
set_option maxHeartbeats 1000000
namespace N
open PySem PySem.Spec PyProof.Rows L2
def Fm.py : Fm → PyData
  | .at c => .tuple [.str "atom", .str (sg c)]
  | .no => .tuple [.str "no"]
  | .imp a b => .tuple [.str "if", a.py, b.py]
  | .all a => .tuple [.str "all", a.py]
end N
set_option Elab.async false
set_option linter.all false
set_option maxRecDepth 100000
set_option maxHeartbeats 1000000
set_option Elab.async false
set_option linter.all false
set_option maxRecDepth 100000
set_option maxHeartbeats 1000000
set_option Elab.async false
set_option linter.all false
set_option maxRecDepth 100000
set_option maxHeartbeats 1000000
set_option Elab.async false
set_option linter.all false
set_option maxRecDepth 100000
set_option maxHeartbeats 1000000
namespace N
open PySem PySem.Spec PyProof.Rows L2
theorem strOk_sg {c : Nat} (h : ltr c) : PyData.strOk (sg c) = true := strOk_low fun d hd => by
  have hd : d ∈ [c] := hd
  rw [List.mem_singleton] at hd
  have h : (65 ≤ c ∧ c ≤ 90) ∨ (97 ≤ c ∧ c ≤ 122) := h
  omega
theorem Fm.canLay : ∀ {f : Fm}, f.okL → PyData.canLay0 f.py = true
  | .at c, h => by
    have h1 := strOk_sg h
    have h2 : PyData.strOk "atom" = true := by decide +kernel
    simp [Fm.py, PyData.canLay0, PyData.canLayAll0, h1, h2]
  | .no, _ => by decide +kernel
  | .imp a b, h => by
    have h1 := Fm.canLay h.1
    have h3 := Fm.canLay h.2
    have h2 : PyData.strOk "if" = true := by decide +kernel
    simp [Fm.py, PyData.canLay0, PyData.canLayAll0, h1, h2, h3]
  | .all a, h => by
    have h1 := Fm.canLay (f := a) h
    have h2 : PyData.strOk "all" = true := by decide +kernel
    simp [Fm.py, PyData.canLay0, PyData.canLayAll0, h1, h2]
theorem Fm.depth_py : ∀ f : Fm, PyData.depth f.py ≤ f.ht + 1
  | .at c => by simp [Fm.py, Fm.ht, PyData.depth, PyData.depthAll]
  | .no => by simp [Fm.py, Fm.ht, PyData.depth, PyData.depthAll]
  | .imp a b => by
    have := Fm.depth_py a
    have := Fm.depth_py b
    simp only [Fm.py, Fm.ht, PyData.depth, PyData.depthAll]
    omega
  | .all a => by
    have := Fm.depth_py a
    simp only [Fm.py, Fm.ht, PyData.depth, PyData.depthAll]
    omega
theorem Fm.shaped {f : Fm} (h : f.okL) (hh : f.ht < 60) : SeqAt.shaped f.py = true := by
  have := Fm.depth_py f
  unfold SeqAt.shaped
  rw [Fm.canLay h, Bool.true_and, decide_eq_true_eq]
  omega
/-- rules drawn: small forms -/
structure Sml (rs : List (Nat × Fm)) : Prop where
  ok : rlOk rs
  sm : ∀ p ∈ rs, p.2.many ≤ 9
theorem Sml.ht {rs : List (Nat × Fm)} (h : Sml rs) : ∀ p ∈ rs, p.2.ht < 50 := fun p hp => by
  have := Fm.ht_many p.2
  have := h.sm p hp
  omega
end N
set_option Elab.async false
set_option linter.all false
set_option maxRecDepth 100000
namespace N
open PySem PySem.Spec PyProof.Rows L2
abbrev Rl := List (Nat × Fm)
end N
set_option Elab.async false
set_option linter.all false
set_option maxRecDepth 100000
set_option maxHeartbeats 1000000
set_option Elab.async false
set_option linter.all false
set_option maxRecDepth 100000
set_option maxHeartbeats 1000000
namespace N
open PySem PySem.Spec PyProof.Rows L2
theorem rlOk.nd {r : Rl} (h : rlOk r) : (r.map (·.1)).Nodup := h.asc.imp (S := (· ≠ ·)) fun h => Nat.ne_of_lt h
end N
set_option Elab.async false
set_option linter.all false
set_option maxRecDepth 100000
set_option maxHeartbeats 1000000
namespace N
open PySem PySem.Spec PyProof.Rows L2
def S_isatomV : FS := fun ds W post => ∃ d : D, ds = [d] ∧ W = [] ∧ ((∃ x : Str, d = .str x ∧ x.length ≤ 16777216 ∧ post (.bl (isLet x)) []) ∨ ((notStr d ∨ ∃ f, d = .fm f) ∧ post (.bl false) []))
end N
set_option Elab.async false
set_option linter.all false
set_option maxRecDepth 100000
set_option maxHeartbeats 1000000
set_option Elab.async false
set_option linter.all false
set_option maxRecDepth 100000
set_option maxHeartbeats 2000000
namespace N
open PySem PySem.Spec PyProof.Rows L2
/-- an exception object of a class, with its dict -/
def XvO (cls : Value) (d : Option Addr) (a : Addr) : HO := .ext fun h => ∃ (oe : Obj) (vs : Array Value), h.get? a = some oe ∧ Zc cls d oe ∧ oe.data = .fields vs
theorem xvO_ok {P : Program} {w : World} {H : Hp} {h : Heap} {a : Addr} {cls : Value} {d : Option Addr} {oe : Obj} {vs : Array Value} (e : h.get? a = some oe) (z : Zc cls d oe) (q : oe.data = .fields vs) : ObjOk P w H h a (XvO cls d a) :=
  ⟨⟨oe, vs, e, z, q⟩, ⟨oe, e⟩, fun _ _ ⟨o, v, e1, r⟩ k => ⟨o, v, k o e1, r⟩⟩
/-- the exception that a suite holds, if there is one: its address, class, dict -/
abbrev Hx := Option (Addr × Value × Option Addr)
def HxOk (X : Cx) (hx : Hx) : Prop := ∀ a cls d, hx = some (a, cls, d) → ∃ oe, (a, oe) ∈ X.pn ∧ Zc cls d oe ∧ ∃ vs, oe.data = .fields vs
theorem hx_none {X : Cx} : HxOk X none := fun _ _ _ e => nomatch e
/-- an exception is held, or is a value -/
def XAt (hx : Hx) (H : Hp) (a : Addr) (cls : Value) (d : Option Addr) : Prop := hx = some (a, cls, d) ∨ H a = some (XvO cls d a)
theorem XAt.obj {X : Cx} {hx : Hx} {pins : List (Addr × Obj)} {σ : L2.St} {H : Hp} {s : Shared} {a : Addr} {cls : Value} {d : Option Addr} (hk : HxOk X hx) (I : Inv X pins σ H s) (h : XAt hx H a cls d) : ∃ oe vs, s.heap.get? a = some oe ∧ Zc cls d oe ∧ oe.data = .fields vs := by
  rcases h with h | h
  · obtain ⟨oe, hp, hz, vs, hd⟩ := hk a cls d h
    exact ⟨oe, vs, (I.pin (a, oe) (List.mem_append_left _ hp)).1, hz, hd⟩
  · exact (I.hok a _ h).1
def tXU (K : PySem.W.Frag) (hx : Hx) (f : Str) (te : TE) : TE := fun σ H Q => te σ H fun x H1 => ∃ (a C dd : Addr) (fs : List (Str × V)) (v : V), x = .ref a ∧ XfC K C ∧ PySem.W.findIn K (.ref C) f = some none ∧ XAt hx H1 a (.ref C) (some dd) ∧ H1 dd = some (.xd fs) ∧ fs.lookup f = some v ∧ Q v H1
theorem pe_xU {X : Cx} {hx : Hx} {e : Expr} {te : TE} {pos : Pos} {n : Str} (hk : HxOk X hx) (he : PE X e te) (hb : attributeBase e n X.env (eval e X.env) = eval e X.env := by rfl) : PE X (.Attribute e n pos) (tXU X.K hx n te) := by
  refine ⟨fun pins s σ H Q I h => ?_⟩
  refine attr_of hb (thn (he.run pins s σ H _ I h) fun u s1 hh => ?_)
  obtain ⟨x, H1, I1, rx, a, C, dd, fs, v, ex, T, hno, hat, ea, l, q⟩ := hh
  subst ex
  obtain rfl : u = Value.ref a := rx
  obtain ⟨oe, vs, ha, hz, hd⟩ := hat.obj hk I1
  have hx : ObjOk X.prog X.w H1 s1.heap dd (.xd fs) := I1.hok dd _ ea
  obtain ⟨mA, hns, hr⟩ := hx
  obtain ⟨od, ho, hl⟩ := lookIn_ns hns
  obtain ⟨u, hu, ru⟩ := RelO.some_of (v := v) (o := mA n) (by rw [← l]; exact hr n)
  have J : PySem.W.InstAt s1.heap a oe C (some od) := ⟨ha, hz.1, by unfold PySem.W.notCls; rw [hd] <;> rfl, by rw [hz.2]; exact ho⟩
  exact HandSPX.exc_get I1.kIn J T.ga T.gg T.exC (PySem.W.findObj_own T.hdC hno rfl (by rw [hl, hu])) (handed_of ru) ⟨v, H1, I1.tok _, ru, q⟩
def rIsU (K : PySem.W.Frag) (hx : Hx) : List V → Hp → VK → Prop := fun xs H Q => ∃ (a : Addr) (c : V) (cv : Value) (r : Bool) (D : Addr) (d : Option Addr),
  xs = [.ref a, c] ∧ XAt hx H a (.ref D) d ∧ (d = none ∨ ∃ dd fs, d = some dd ∧ H dd = some (.xd fs)) ∧ ExcC K D ∧ (∀ u, RelV c u → u = cv) ∧ PySem.W.kitOne K (.ref D) cv = some r ∧ Q (.bl r) H
theorem call_isU {X : Cx} {hx : Hx} (hk : HxOk X hx) : CallR X (.builtin "isinstance") (rIsU X.K hx) := by
  intro pins s σ H xs us Q I r h
  obtain ⟨a, c, cv, b, D, d, rfl, hat, hd, C, hcv, e, q⟩ := h
  cases r with
  | cons rx rr =>
    cases rr with
    | cons rt rr =>
      cases rr
      cases rx
      have ec := hcv _ rt
      subst ec
      obtain ⟨oe, vs, ha, hz, hv⟩ := hat.obj hk I
      obtain ⟨od, J⟩ : ∃ od, PySem.W.InstAt s.heap a oe D od := by
        have nc : PySem.W.notCls oe = true := by unfold PySem.W.notCls; rw [hv] <;> rfl
        rcases hd with rfl | ⟨dd, fs, rfl, ed⟩
        · exact ⟨none, ha, hz.1, nc, by rw [hz.2]; trivial⟩
        · have hx : ObjOk X.prog X.w H s.heap dd (.xd fs) := I.hok dd _ ed
          obtain ⟨mA, hns, _⟩ := hx
          obtain ⟨od, ho, _⟩ := lookIn_ns hns
          exact ⟨some od, ha, hz.1, nc, by rw [hz.2]; exact ho⟩
      exact PySem.W.kia_one (PySem.W.kitx_exc (clsIn_of C.hd) C.hg C.hk C.hs C.ha C.hn C.ht C.hm) I.kIn J e (fun z => nomatch z) fun tk => ⟨.bl b, H, I.kept (t' := tk) fun _ _ z => z, rfl, q⟩
end N
set_option Elab.async false
set_option linter.all false
set_option maxRecDepth 100000
set_option maxHeartbeats 2000000
set_option Elab.async false
set_option linter.all false
set_option maxRecDepth 100000
set_option maxHeartbeats 2000000
namespace N
open PySem PySem.Spec PyProof.Rows L2
/-- an error class, made by position or by name -/
structure ErrU (P : Program) (w : World) (K : PySem.W.Frag) (mg : Str → Option Value) (base : Heap) (k : Nat) (x : Str) (C : Addr) (f : Str) : Prop where
  ex : ∃ (g : Addr) (fd : FuncData) (ps : List Str) (gg : List Value → List Value → List Value), ErC K C f ∧ PySem.W.findIn K (.ref C) "__init__" = some (some (.ref g)) ∧ PySem.W.typeIn K (.ref g) = some (.type "function") ∧ FnOk P w K mg base CX0 k g fd ps (spEr C f) ∧ Binds K fd ps [] ∧
    KBn K fd ps 1 [f] gg (fun vs zs => vs ++ zs) ∧ mg x = some (.ref C)
theorem errUD {P : Program} {w : World} {K : PySem.W.Frag} {mg : Str → Option Value} {base : Heap} {x qual f : Str} {C g : Addr} {st : Stmt} {fd : FuncData} {N ps : List Str} (er : ErC K C f) (iC : PySem.W.findIn K (.ref C) "__init__" = some (some (.ref g))) (tI : PySem.W.typeIn K (.ref g) = some (.type "function"))
    (hm : mg x = some (.ref C)) (Fn : Fun K "__init__" qual st g fd) (Sc : FnScope N ps (defScope st)) (hN : N = [("self" : Str), f]) (hps : ps = [("self" : Str), f])
    (hb : ∀ (kV doc pm : Value) (an : Option Addr) (cdv ct : Value) (us : List Value), us.length = ps.length → bindArgs (PySem.W.fnOf "__init__" qual (defArgs st) (defBody st) (defScope st) .none kV doc pm an cdv ct) ⟨us, []⟩ = pure (ps.zip us))
    (hk : ∀ (kV doc pm : Value) (an : Option Addr) (cdv ct u : Value) (ws : List Value), ws.length = [f].length → bindArgs (PySem.W.fnOf "__init__" qual (defArgs st) (defBody st) (defScope st) .none kV doc pm an cdv ct) ⟨[u], [f].zip ws⟩ = pure (ps.zip ([u] ++ ws)))
    (body : ∀ (cdv : Value) (A : Around) (outer : List Env) (s : Shared) (H : Hp) (E : XK), ∃ m,
      PSs (cxOf CX0 P w K mg base N qual (defScope st) g cdv A outer s H E).nox (defBody st) (tSeq (tDrop (tExI K (tCons (tVar 0) (tCons (tC (.str m)) tNil)))) (tOsx K f (tVar 0) (tVar 1)))) :
    ErrU P w K mg base 1 x C f := by
  have kb := kb1_of (g := fun us ws => us ++ ws) (gV := fun vs zs => vs ++ zs) Fn hk (fun h1 h2 => h1.append h2)
  subst hN hps
  refine ⟨g, fd, _, _, er, iC, tI, Fn.ok Sc (fun vs H Q E ⟨a, y, e, _⟩ => by rw [e]; rfl) fun cdv A outer s H vs Q E hr h => ?_, Fn.binds hb, kb, hm⟩
  obtain ⟨a, y, e, ha, q⟩ := h
  subst e
  obtain ⟨m, b⟩ := body cdv A outer s H E
  refine ⟨_, b, ?_⟩
  refine ⟨_, rfl, ?_⟩
  refine ⟨a, C, [_], rfl, by simp, er.oex, ha, ?_⟩
  exact ⟨_, rfl, _, rfl, a, C, rfl, er.oex, er.no, ha, fun dx h1 h2 => q dx h1 h2⟩
end N
set_option Elab.async false
set_option linter.all false
set_option maxRecDepth 100000
set_option maxHeartbeats 2000000
namespace L2
open PySem PySem.Spec PyProof.Rows HotX
end L2
set_option Elab.async false
set_option linter.all false
set_option maxRecDepth 100000
set_option maxHeartbeats 2000000
namespace N
open PySem PySem.Spec PyProof.Rows L2
open L2H (RoomH PinOk cxH inv_startH)
theorem roomH_mark {k : Nat} {A : Around} (r : Room k A) (v : Option Value) : RoomH k (A.mark v) := ⟨r.dp, r.un⟩
theorem roomH_units {k : Nat} {A : Around} (r : RoomH k A) : A.units + 64 < cLine := by have := r.un; omega
end N
set_option Elab.async false
set_option linter.all false
set_option maxRecDepth 100000
set_option maxHeartbeats 2000000
namespace N
open PySem PySem.Spec PyProof.Rows L2
section
variable {X : Cx} {k j : Nat} {x f : Str} {C : Addr} {e : Expr} {es : List Expr} {ta : TA} {p pos : Pos}
theorem mk_endN {pins : List (Addr × Obj)} {σ : L2.St} {H1 H2 : Hp} {Q : XK} {hp hp2 h2 : Heap} {g1 g2 : Array GenState} {d1 d2 : Drawn} {t1 t2 : Nat} {os1 os2 : OsState} {a C d : Addr} {fs : List (Str × V)} (T : Raises X (.ref C)) (I1 : Inv X pins σ H1 ⟨hp, g1, d1, t1, os1⟩)
    (ha : hp.objs.size ≤ a) (k : ∀ b o, hp.get? b = some o → hp2.get? b = some o) (un : Un (frs X.stack) [] (upd H1 a (exo a C none)) H2 hp2 h2) (hok : HOk X.prog X.w H2 h2) (ho : os2 = os1) (hb : AllBare g2)
    (ea : H2 a = some (exo a C (some d))) (ed : H2 d = some (exd d fs)) (hd1 : H1 d = none) (q : Q (.ref C) (some d) (upd (L2.del H2 a) d (.xd fs))) : L2N.MkP X pins σ Q (.ref a) ⟨h2, g2, d2, t2, os2⟩ := by
  obtain ⟨t0, G, J, kG, ge, hoe, na⟩ := mk_end0 (d2 := d2) (t2 := t2) I1 ha k un hok ho hb ea ed hd1
  exact ⟨a, _, _, ⟨G, g2, d2, t2, os2⟩, _, .ref C, some d, rfl, J, kG, ge, hoe, ⟨rfl, rfl, fun vs e => by cases e; rfl⟩, rfl, rfl, na, rfl, hb, T, q⟩
theorem pmk_errN (c : ErrU X.prog X.w X.K X.mg X.base k x C f) (hr : Room j X.A) (hk : k + 1 ≤ j) (hg : Gl X x) (ha : PA X (e :: es) ta)
    (hdb : (x == ("__debug__" : Str)) = false := by decide) (he : starEach (e :: es) X.env = (false, eval e X.env) :: starEach es X.env := by rfl) (hpl : (backTo pos (starEach es X.env)).any (·.1) = false := by rfl) :
    L2N.PMk X (.Call (.Name x p) (e :: es) [] pos) (tMkO C (spEr C f) [] ta) := by
  obtain ⟨fI, fd, ps, gg, E, iC, tI, F1, hb, _, hm⟩ := c.ex
  intro pins s σ H Q I h
  have T := E.oex
  have hx : Passes CX0 X (fun _ _ _ => False) := C8.pass0
  obtain ⟨nm, q, N, bs, bm, sn, sub, ab, col, dd, k0, k1, k2, k3, k5, hC, hbm⟩ := T.cls
  refine wpAny_Call_Name_kw (ld_glob I hg hm ?_ hdb)
  refine PySem.W.callWith_K (h₀ := X.base) I.ok.mod.kin T.kC (thn (ha.run pos pins s σ H _ I h) fun us s1 ⟨vs, H1, I1, r1, hz, q1⟩ => ⟨I1.kIn, ?_⟩) he hpl
  show wpAny _ _ (call (.ref C) us) _ _ _
  obtain ⟨hp, g, dr, tk, os⟩ := s1
  have hsz : hp.objs.size ≤ hp.objs.size + 1 := Nat.le_succ _
  have hn : H1 (hp.objs.size + 1) = none := I1.hok.fresh hsz
  have hq := q1 (hp.objs.size + 1) hn
  rw [List.append_nil] at hq
  have kk : ∀ b o, hp.get? b = some o → ((hp.push (PySem.W.kdv_tup us)).push (PySem.HandSPX.excO C hp.objs.size)).get? b = some o := fun b o e => Heap.get?_push_of_some _ (Heap.get?_push_of_some _ e)
  have hget : ((hp.push (PySem.W.kdv_tup us)).push (PySem.HandSPX.excO C hp.objs.size)).get? (hp.objs.size + 1) = some (PySem.HandSPX.excO C hp.objs.size) := by heap_get
  have I2 : Inv X pins σ (upd H1 (hp.objs.size + 1) (exo (hp.objs.size + 1) C none)) ⟨(hp.push (PySem.W.kdv_tup us)).push (PySem.HandSPX.excO C hp.objs.size), g, dr, tk, os⟩ :=
    I1.laid (t' := tk) (a := hp.objs.size + 1) (o := exo (hp.objs.size + 1) C none) (h' := (hp.push (PySem.W.kdv_tup us)).push (PySem.HandSPX.excO C hp.objs.size)) kk hsz (exo_ok hget)
  have r2 : Vals (V.ref (hp.objs.size + 1) :: vs) (Value.ref (hp.objs.size + 1) :: us) := .cons rfl r1
  have hl : (Value.ref (hp.objs.size + 1) :: us ++ []).length = ps.length := by
    have e := r2.length
    rw [F1.len _ _ _ _ hq] at e
    rw [List.append_nil]
    exact e.symm
  have bb := hb ⟨(hp.push (PySem.W.kdv_tup us)).push (PySem.HandSPX.excO C hp.objs.size), g, dr, tk, os⟩ (Value.ref (hp.objs.size + 1) :: us) I2.kIn hl
  rw [List.append_nil] at bb
  have hus : us.length ≤ sizeLine := by
    rw [← Paired.length r1, sizeLine_eq]
    omega
  refine wpAny_call (PySem.HandSPX.call_own F.excBase_Exception (fun Y => XE.refsX_contains Y bm hbm) (I1.kIn _ _ hC) (PySem.W.looks_findIn I1.kIn iC) (fun self => PySem.W.bind_fn I1.kIn self tI) hus
    (codeAny_mono (F1.run _ X.stack _ _ ⟨Value.ref (hp.objs.size + 1) :: us, []⟩ (Value.ref (hp.objs.size + 1) :: us) _ _ (fun _ _ _ => False) ((hr.mono hk).make C us []) (I2.env0.make C us []) bb r2 hq) fun r s' hq' => ?_))
  cases r with
  | error er => exact hx pins σ _ _ er s' I2 hq'
  | ok fl =>
    cases fl with
    | ret u =>
      obtain ⟨v, H2, os2, bare2, un2, hok2, rv, ev, d, fs, ea, ed, hd1, q2⟩ := hq'
      subst ev
      obtain ⟨h2, g2, d2, t2, os'⟩ := s'
      exact ⟨rv, mk_endN (raises_own T.exC T.tyC) I1 hsz kk un2 hok2 os2 bare2 ea ed hd1 q2⟩
    | next => exact False.elim hq'
    | brk => exact False.elim hq'
    | cont => exact False.elim hq'
end
/-- a def that may raise -/
structure CalXN (P : Program) (w : World) (K : PySem.W.Frag) (mg : Str → Option Value) (base : Heap) (k : Nat) (x : Str) (sp : Sp) : Prop where
  ex : ∃ (f : Addr) (fd : FuncData) (ps : List Str), FnOk P w K mg base (L2N.CX P w) k f fd ps sp ∧ mg x = some (.ref f) ∧ PySem.W.keepIn K (.ref f) = true ∧ Binds K fd ps []
theorem pe_cXN {X : Cx} {W : WX} {k j : Nat} {x : Str} {sp : Sp} {e : Expr} {es : List Expr} {t : TA} {p pos : Pos} (c : CalXN X.prog X.w X.K X.mg X.base k x sp) (hr : Room j X.A) (hk : k ≤ j) (hg : Gl X x) (tk : L2N.Takes X W) (ha : PA X (e :: es) t)
    (hdb : (x == ("__debug__" : Str)) = false := by decide) (he : starEach (e :: es) X.env = (false, eval e X.env) :: starEach es X.env := by rfl) (hpl : (backTo pos (starEach es X.env)).any (·.1) = false := by rfl) :
    PE X (.Call (.Name x p) (e :: es) [] pos) (tCallS sp (WE W) t) := by
  obtain ⟨f, fd, ps, F, hm, kp, b⟩ := c.ex
  exact pe_callS F (hr.mono hk) hg hm kp b (fun σ => L2N.passAt tk σ) ha hdb he hpl
section
variable {P : Program} {w : World} {K : PySem.W.Frag} {mg : Str → Option Value} {base : Heap} {F : FmKit} {cl : Nat → Addr} {S : FX}
theorem calXND {x : Str} {st : Stmt} {f : Addr} {fd : FuncData} {N ps : List Str} {k : Nat} (hm : mg x = some (.ref f)) (Fn : Fun K x x st f fd) (Sc : FnScope N ps (defScope st)) (len : ∀ ds W post ex, S ds W post ex → ds.length = ps.length)
    (hb : ∀ (kV doc pm : Value) (an : Option Addr) (cdv ct : Value) (us : List Value), us.length = ps.length → bindArgs (PySem.W.fnOf x x (defArgs st) (defBody st) (defScope st) .none kV doc pm an cdv ct) ⟨us, []⟩ = pure (ps.zip us))
    (body : ∀ (cdv : Value) (A : Around) (outer : List Env) (s : Shared) (H : Hp) (E : XK), Room k (A.deeper (envOfC x (defScope st) s.heap.objs.size f cdv)) →
      ∃ t, PSs (cxOf (L2N.CX P w) P w K mg base N x (defScope st) f cdv A outer s H E) (defBody st) t ∧ ∀ ds W post ex, S ds W post ex → SwX F ⟨K, cl⟩ (WD E) t (startD N ds) W (E_ post) fun c d _ W => ex c d W) : CalXN P w K mg base (k + 1) x (spX F ⟨K, cl⟩ S) := by
  have kp := Fn.kp
  have bd := Fn.binds hb
  obtain ⟨oc, od, kV, doc, pm, an, cdv, ct, osl, rfl, lk, hcd⟩ := Fn.ex
  exact ⟨f, _, ps, fn_of lk hcd Sc (spX_len len) fun A outer s H vs Q E hr hsp => let ⟨t, ht, b⟩ := body cdv A outer s H E hr; ⟨t, ht, body_runX hsp b⟩, hm, kp, bd⟩
end
theorem takes0N {X : Cx} : L2N.Takes X (fun _ _ _ _ => False) := fun u s' ⟨_, _, _, _, _, _, _, _, _, _, _, _, _, _, _, _, w⟩ => w.elim
end N
set_option Elab.async false
set_option linter.all false
set_option maxRecDepth 100000
set_option maxHeartbeats 2000000
namespace N
open PySem PySem.Spec PyProof.Rows L2
/-- an exception of the class with the place c is held, or is an owned value -/
def ErrAt (cl : Nat → Addr) (hx : Hx) (a : Addr) (c : Nat) (d : Option Addr) (W : Om) : Prop := hx = some (a, .ref (cl c), d) ∨ (a, OD.any (XvO (.ref (cl c)) d a)) ∈ W
/-- with its field -/
def FldAt (d : Option Addr) (fs : List (Str × D)) (W : Om) : Prop := (d = none ∧ fs = []) ∨ ∃ dd, d = some dd ∧ (dd, OD.xd (fs.map (·.1)) (fs.map (·.2))) ∈ W
section
variable {F : FmKit} {T : Kx} {C H O : Hp} {G : Gm} {W : Om} {R : D → Om → Prop} {te ta : TE} {tr : TA} {hx : Hx}
theorem ErrAt.at_ {a : Addr} {c : Nat} {d : Option Addr} (h : ErrAt T.cl hx a c d W) (ow : Ow F T H C O W) : XAt hx (ov O H) a (.ref (T.cl c)) d := by
  rcases h with h | h
  · exact .inl h
  · exact .inr (ov_own (ow.at_ a _ h).2)
theorem ErrAt.mono {a : Addr} {c : Nat} {d : Option Addr} {W' : Om} {cl : Nat → Addr} (h : ErrAt cl hx a c d W) (s : ∀ x ∈ W, x ∈ W') : ErrAt cl hx a c d W' := h.imp id fun h => s _ h
theorem FldAt.mono {d : Option Addr} {fs : List (Str × D)} {W' : Om} (h : FldAt d fs W) (s : ∀ x ∈ W, x ∈ W') : FldAt d fs W' := h.imp id fun ⟨dd, e, m⟩ => ⟨dd, e, s _ m⟩
theorem ca_isU {c : Nat} {v : V} {cv : Value} {r : Bool} {a : Addr} {d : Option Addr} {fs : List (Str × D)} (ec : ExcC T.K (T.cl c)) (hv : ∀ u, RelV v u → u = cv) (hk : PySem.W.kitOne T.K (.ref (T.cl c)) cv = some r) (hm : ErrAt T.cl hx a c d W) (hd : FldAt d fs W) (h : R (.bl r) W) :
    Ca F T (rIsU T.K hx) [.adr a, .vl v] W R := fun C H O di oc ow xs hxs Q q => by
  obtain ⟨x, r1, e1, k1, k2⟩ := hxs
  obtain ⟨y, r2, e2, k3, k4⟩ := k2
  have k4 : r2 = [] := k4
  have k1 : x = .ref a := k1
  have k3 : y = v := k3
  subst k4 k1 k3 e2 e1
  refine ⟨a, y, cv, r, T.cl c, d, rfl, hm.at_ ow, ?_, ec, hv, hk, q (.bl r) W H O (.bl r) h (Nx.refl di oc ow) rfl⟩
  rcases hd with ⟨hd, _⟩ | ⟨dd, rfl, m⟩
  · exact .inl hd
  · obtain ⟨_, gs, h1, h2, h3⟩ := ow.at_ dd _ m
    exact .inr ⟨dd, gs, rfl, ov_own h1⟩
theorem ev_xU {f : Str} (h : Ev F T te G W fun dv W1 => ∃ (a : Addr) (c : Nat) (d : Option Addr) (z : D), dv = .adr a ∧ XfC T.K (T.cl c) ∧ PySem.W.findIn T.K (.ref (T.cl c)) f = some none ∧ ErrAt T.cl hx a c d W1 ∧ FldAt d [(f, z)] W1 ∧ R z W1) : Ev F T (tXU T.K hx f te) G W R := fun C H O σ w Q q =>
  h C H O σ w _ fun dv W1 H1 O1 x ⟨a, c, d, z, e, h1, h2, h3, h4, r⟩ n k => by
    subst e
    rcases h4 with ⟨_, h4⟩ | ⟨dd, rfl, m⟩
    · cases h4
    · obtain ⟨_, gs, g1, g2, g3⟩ := n.own.at_ dd _ m
      obtain ⟨v, hv, kv⟩ := look_zip (n := f) (z := z) (l := [z]) g3 (by rw [g2]; simp)
      exact ⟨a, T.cl c, dd, gs, v, k, h1, h2, h3.at_ n.own, ov_own g1, hv, q z W1 H1 O1 v r n kv⟩
end
end N
set_option Elab.async false
set_option linter.all false
set_option maxRecDepth 100000
set_option maxHeartbeats 2000000
namespace N
open PySem PySem.Spec PyProof.Rows L2
section
variable {X : Cx} {pins : List (Addr × Obj)} {σ : L2.St} {H : Hp} {s : Shared} {a : Addr}
/-- what stands, is known to nobody and is no frame's, may be told -/
theorem inv_told {ob : HO} {oe : Obj} {vs : Array Value} (I : Inv X pins σ H s) (ha : s.heap.get? a = some oe) (hd : oe.data = .fields vs) (hn : H a = none) (h0 : a ∉ X.ex → X.s_0.heap.get? a = none) (nL : a ≠ X.env.locals) (np : ∀ p ∈ X.pn ++ pins, p.1 ≠ a)
    (new : ObjOk X.prog X.w (upd H a ob) s.heap a ob) : Inv X pins σ (upd H a ob) s := by
  have u := I.base
  refine ⟨I.ok, I.os, I.bare, ⟨u.keep, u.slot, fun b o e n x => ?_, u.there, fun b xs e => ?_, fun b o w e => ?_, fun b ps e => ?_⟩, I.loc, I.cell, ?_, fun y c e => ?_, fun p hp => ?_, I.hok.laidN (fun _ _ e => e) hn new, I.len⟩
  · have hb : b ≠ a := fun z => by
      subst z
      rw [h0 x] at e
      cases e
    rw [upd_ne hb]
    exact u.free b o e n x
  · have q := u.tups b xs e
    rw [upd_ne (ne_of_none q hn)]
    exact q
  · have q := u.frzs b o w e
    rw [upd_ne (ne_of_none q hn)]
    exact q
  · obtain ⟨m, q⟩ := u.tbls b ps e
    exact ⟨m, by rw [upd_ne (ne_of_none q hn)]; exact q⟩
  · rw [upd_ne nL.symm]
    exact I.free
  · have hb : c ≠ a := fun z => by
      subst z
      obtain ⟨v, o, q1, q2⟩ := I.cell y c e
      rw [ha] at q1
      cases q1
      rw [hd] at q2
      cases q2
    rw [upd_ne hb]
    exact I.freeC y c e
  · obtain ⟨p1, p2, p3⟩ := I.pin p hp
    rw [upd_ne (np p hp)]
    exact ⟨p1, p2, p3⟩
end
/-- the wish of a body whose handler keeps the exception when its suite ends -/
def wKp (K : PySem.W.Frag) (c : Value) (i : Nat) (ts : Addr → Value → Option Addr → TS) (Wout : WX) (D : Ends) : WX := fun cls d σ H =>
  ∃ b, PySem.W.exmOne K cls c = some b ∧ (b = true → ∀ a, H a = none → ts a cls d { nx := fun σ' H' => H' a = none → D.nx (σ'.set i none) (upd H' a (XvO cls d a)), rt := fun _ _ => False, bk := fun _ _ => False, ct := fun _ _ => False } (σ.set i (some (.ref a))) H) ∧
    (b = false → Wout cls d σ H)
section
variable {X : Cx} {x n : Str} {c : Value} {i : Nat} {body suite : List Stmt} {b₀ : Stmt} {np pos pos' : Pos} {tb : WX → TS} {ts : Addr → Value → Option Addr → TS} {Wout : WX}
theorem ps_try_kp (hs : X.stack = X.env :: X.outer) (hf : X.env.frame = some X.env.locals) (hN : X.N.Nodup) (hi : X.N[i]? = some n) (hln : X.env.kindOf n = some .local) (hc : Names X x c) (tk : L2N.Takes X Wout)
    (hb : ∀ (W : WX) (pn : List (Addr × Obj)) (xe : Value → Shared → Prop), L2N.Takes (X.tr pn xe) W → PassesOwn (model X.prog X.w) X.A X.env xe → PSs (X.tr pn xe) body (tb W))
    (hsu : ∀ (a : Addr) (oe : Obj) (cls : Value) (d : Option Addr) (pn : List (Addr × Obj)), L2N.Zn cls d oe → (∃ vs, oe.data = .fields vs) → PSs (X.suite a ((a, oe) :: pn)) (b₀ :: suite) (ts a cls d)) :
    PS X (.Try body [.ExceptHandler (some (.Name x np)) (some n) (b₀ :: suite) pos'] [] [] pos) (fun D σ H => tb (wKp X.K c i ts Wout D) D σ H) := by
  refine ⟨fun pins s σ H D I h => wpAny_Try_except (wpAny_mono ((hb _ (X.pn ++ pins) _ (fun u s' xx => ?_) PassesOwn.looking).run [] s σ H D (I.toTry _) h) (fun f s1 hsp => ?_) (fun e s1 he => he))⟩
  rotate_left
  · have ok := I.ok
    cases f with
    | next =>
      obtain ⟨σ', H', J', q⟩ := hsp
      exact wpAny_execs_nil ⟨σ', H', J'.ofTry ok, q⟩
    | brk =>
      obtain ⟨σ', H', J', q⟩ := hsp
      exact ⟨σ', H', J'.ofTry ok, q⟩
    | cont =>
      obtain ⟨σ', H', J', q⟩ := hsp
      exact ⟨σ', H', J'.ofTry ok, q⟩
    | ret u =>
      obtain ⟨v, σ', H', J', r, q⟩ := hsp
      exact ⟨v, σ', H', J'.ofTry ok, r, q⟩
  obtain ⟨a, B, sI, pins', σ', H', cls, d, rfl, J', nb, up, sky, na, os, ag, b, hb1, hyes, hno⟩ := xx
  have ok := I.ok
  have hfr : X.A.frames = some (X.env :: X.outer) := ok.frames.trans (congrArg some hs)
  have J : Inv X pins σ' H' sI := J'.ofTry ok
  have sky' : Sky B (X.env :: X.outer) a (L2N.Zn cls d) X.env.locals s'.heap := hs ▸ sky
  refine L2N.Sky.land L2N.Zn.steady hfr hf sky' fun h3 fl3 up3 => ?_
  obtain ⟨oe3, vs3, he3, hz3, hd3⟩ := fl3.there
  have nfr : a ∉ frs (X.env :: X.outer) := fun hm => by
    obtain ⟨_, o', e', hnf⟩ := fl3.2.2.1.mem hm
    rw [he3] at e'
    cases e'
    exact hnf _ hd3
  have nL : a ≠ X.env.locals := fun z => nfr (List.mem_filterMap.mpr ⟨X.env, List.mem_cons_self, by rw [hf, z]⟩)
  have nF : a ∉ X.fs := fun hm => let ⟨e, he, q⟩ := List.mem_filterMap.mp hm; nfr (List.mem_filterMap.mpr ⟨e, List.mem_cons_of_mem _ he, q⟩)
  have gone : sI.heap.get? a = none := by
    cases e : sI.heap.get? a with
    | none => rfl
    | some o =>
      have q := nb a o e (by rw [hs]; exact nfr)
      rw [fl3.2.1] at q
      cases q
  have gone0 : a ∉ X.ex → X.s_0.heap.get? a = none := fun hx => by
    cases e : X.s_0.heap.get? a with
    | none => rfl
    | some o =>
      obtain ⟨o', q⟩ := J.base.there a o e hx
      rw [gone] at q
      cases q
  have nop : ∀ p ∈ X.pn ++ pins, p.1 ≠ a := fun p hp z => by
    have q := (J.pin p hp).1
    rw [z, gone] at q
    cases q
  have S3 := (J.landed nb fl3.1 (up.trans up3) os ag : Inv X pins σ' H' { s' with heap := h3 }).suite he3 hd3 na nL nF
  refine wpAny_handleBy_cons (codeAny_handlers_test ?_) (by intro q; cases q)
  have J3 : Inv X pins σ' H' { s' with heap := h3 } := J.landed nb fl3.1 (up.trans up3) os ag
  have LT : PySem.W.Looks (model X.prog X.w) h3 (typeOf (.ref a)) cls := fun A Q E s k q => wpAny_typeOf_ref (k _ _ he3) (by rw [hz3.1]; exact q)
  have LM := PySem.W.exm_one (M := model X.prog X.w) J3.kIn LT hb1
  have test : ∀ {Q : Value → Shared → Prop} {E : Value → Shared → Prop}, Q c { s' with heap := h3 } → wpAny (model X.prog X.w) (X.A.mark (some (.ref a))) (eval (.Name x np) X.env) Q E { s' with heap := h3 } := fun {Q E} q => by
    obtain ⟨hg, hdbg, hm | ⟨hm, hv, hnn⟩⟩ := hc
    · exact ld_glob (X := X.suite a ((a, oe3) :: (X.pn ++ pins))) S3 hg hm q hdbg
    · exact ld_blt (X := X.suite a ((a, oe3) :: (X.pn ++ pins))) S3 hg hm hv q hnn hdbg
  refine test (LM.here ?_)
  cases b with
  | true =>
    refine codeAny_handlers_suite_as (HandSPX.lands_againZ fl3 fun h4 fl4 up4 => ?_)
    obtain ⟨oe4, vs4, he4, hz4, hd4⟩ := fl4.there
    have S4 := (J.landed nb fl4.1 ((up.trans up3).trans up4) os ag : Inv X pins σ' H' { s' with heap := h4 }).suite he4 hd4 na nL nF
    refine store_ok (X := X.suite a ((a, oe4) :: (X.pn ++ pins))) (v := .ref a) S4 hN hi (.inl hln) rfl (fun s5 S5 => ?_) (.inr hln)
    refine wpAny_mono ((hsu a oe4 cls d (X.pn ++ pins) hz4 ⟨_, hd4⟩).run [] s5 _ H' _ S5 (hyes rfl a na)) (fun f s6 hsp => ?_) (fun _ _ z => z.elim)
    cases f with
    | next =>
      obtain ⟨σ6, H6, S6, q6⟩ := hsp
      obtain ⟨p1, p2, p3, p4, p5⟩ := S6.pin (a, oe4) (List.mem_append_left _ List.mem_cons_self)
      refine gone_ok (inv_told (S6.unsuite ok) p1 hd4 p2 gone0 nL nop (xvO_ok p1 hz4.zc hd4)) hN hi hln fun s7 J7 => ⟨_, _, J7, q6 p2⟩
    | brk => exact hsp.elim fun _ z => z.elim fun _ z => z.2.elim
    | cont => exact hsp.elim fun _ z => z.elim fun _ z => z.2.elim
    | ret u => exact hsp.elim fun _ z => z.elim fun _ z => z.elim fun _ z => z.2.2.elim
  | false =>
    refine wpAny_handleBy_nil ?_
    obtain ⟨k1, k2, k3, oe, vs, T, oT, ts', he, hz, hd, h1, hr⟩ := id fl3
    unfold PySem.passOn
    refine wpAny_bind (wpAny_field he hd h1 ?_)
    rw [if_neg (show ¬ ((Value.ref T == Value.none) = true) from by simp)]
    have fin : wpAny (model X.prog X.w) X.A (setFlight (.ref a) X.env.frame) (fun _ s4 => wpAny (model X.prog X.w) X.A (throw (.ref a) : Sem Flow) (SP X pins D) X.xe s4) X.xe { s' with heap := h3 } := by
      rw [hf]
      refine HandSPX.setFlight_upZ fl3 fun h4 hh4 up4 => wpAny_throw (tk _ _ ?_)
      exact ⟨a, B, sI, pins, σ', H', cls, d, rfl, J, nb, (up.trans up3).trans up4, .inr (.inr (by rw [hs]; exact hh4)), na, os, ag, hno rfl⟩
    first
      | exact wpAny_bind (wpAny_pure (wpAny_bind fin))
      | exact wpAny_bind fin
end
end N
set_option Elab.async false
set_option linter.all false
set_option maxRecDepth 100000
set_option maxHeartbeats 2000000
namespace N
open PySem PySem.Spec PyProof.Rows L2
def starSX (n : Nat) (S : FX) : FX := fun ds W post ex => n ≤ ds.length ∧ ds.length ≤ 1000 ∧ S (ds.take n ++ [.tup (ds.drop n)]) W post ex
theorem cxUpN {P : Program} {w : World} : StX.CXUp (L2N.CX P w) := fun outer s H s2 H2 E e s' un kp ho h => by
  obtain ⟨a, B, H', cls, d, ea, fl, hok, ub, na, os, ag, he⟩ := h
  have fr : ∀ b o, s.heap.get? b = some o → H b = none → H2 b = none := fun b o q n => un.free b o q n (List.not_mem_nil)
  refine ⟨a, B, H', cls, d, ea, fl, hok, { keep := fun b o q n hb => ub.keep b o (kp b o q) (fr b o q n) hb, slot := fun b o q hb => ub.slot b o (kp b o q) hb, free := fun b o q n => ub.free b o (kp b o q) (fr b o q n), there := fun b o q hb => ub.there b o (kp b o q) hb, tups := fun b xs q => ub.tups b xs (un.tups b xs q), frzs := fun b o xs q => ub.frzs b o xs (un.frzs b o xs q), tbls := fun b ps q => ?_ }, na, os.trans ho, ag, he⟩
  obtain ⟨m1, e1⟩ := un.tbls b ps q
  obtain ⟨m2, e2⟩ := ub.tbls b _ e1
  exact ⟨m1 ++ m2, by rw [e2, Array.append_assoc]⟩
section
variable {P : Program} {w : World} {K : PySem.W.Frag} {mg : Str → Option Value} {base : Heap} {F : FmKit} {cl : Nat → Addr} {S : FX}
theorem okSX {x qual : Str} {st : Stmt} {f : Addr} {fd : FuncData} {N ps : List Str} {k : Nat} {pv : Str} (Fn : Fun K x qual st f fd) (Sc : FnScope N (ps ++ [pv]) (defScope st))
    (hb : ∀ (kV doc pm : Value) (an : Option Addr) (cdv ct : Value) (us rest : List Value), us.length = ps.length → bindArgs (PySem.W.fnOf x qual (defArgs st) (defBody st) (defScope st) .none kV doc pm an cdv ct) ⟨us ++ rest, []⟩ = (newTuple rest >>= fun t => pure (ps.zip us ++ [(pv, t)])))
    (body : ∀ (cdv : Value) (A : Around) (outer : List Env) (s : Shared) (H : Hp) (E : XK), Room k (A.deeper (envOfC qual (defScope st) s.heap.objs.size f cdv)) →
      ∃ t, PSs (cxOf (L2N.CX P w) P w K mg base N qual (defScope st) f cdv A outer s H E) (defBody st) t ∧ ∀ ds W post ex, S ds W post ex → SwX F ⟨K, cl⟩ (WD E) t (startD N ds) W (E_ post) fun c d _ W => ex c d W) : FnR P w K mg base (L2N.CX P w) (k + 1) f (spX F ⟨K, cl⟩ (starSX ps.length S)) := by
  obtain ⟨oc, od, kV, doc, pm, an, cdv, ct, osl, rfl, lk, hcd⟩ := Fn.ex
  have h := StX.fn_star (CX := L2N.CX P w) (P := P) (w := w) (mg := mg) (base := base) (k := k) (N := N) (ps := ps) (sp := spX F ⟨K, cl⟩ S) lk hcd Sc cxUpN (hb kV doc pm an cdv ct) (fun A outer s H vs Q E hr h => let ⟨t, ht, b⟩ := body cdv A outer s H E hr; ⟨t, ht, body_runX h b⟩)
  refine fun A outer s H us vs Q E hr e0 r hsp => h A outer s H us vs Q E hr e0 r ?_
  obtain ⟨ds, W, C, H1, O, post, ex, e, di, oc, ow, kl, ⟨h1, h2, h3⟩, q, xq⟩ := hsp
  have hl := kl.len
  refine ⟨vs.take ps.length, vs.drop ps.length, (List.take_append_drop _ _).symm, by rw [List.length_take, hl]; omega, ?_, fun p hp => ?_⟩
  · have := sizeLine_eq
    rw [List.length_drop, hl]
    omega
  · subst e
    obtain ⟨n2, e2, s2⟩ := (Nx.refl (F := F) (T := ⟨K, cl⟩) di oc ow).newF (o := .tup (vs.drop ps.length)) hp
    rw [e2]
    exact ⟨_, W, C, _, O, post, ex, rfl, n2.dis, n2.oc, n2.own, ((kl.take ps.length).mono s2).app (.one (d := .tup (ds.drop ps.length)) ⟨p, _, rfl, SqT.of upd_same, (kl.drop ps.length).mono s2⟩), h3, fun d W' H' O' v r n k => q d W' H' O' v r (n2.trans n) k, fun c d W' H' O' r n => xq c d W' H' O' r (n2.trans n)⟩
/-- a class whose __init__ has a star and may raise -/
structure MakRX (P : Program) (w : World) (K : PySem.W.Frag) (mg : Str → Option Value) (base : Heap) (k : Nat) (x : Str) (C : Addr) (sp : Sp) : Prop where
  ex : ∃ f : Addr, Mk K C f ∧ FnR P w K mg base (L2N.CX P w) k f sp ∧ mg x = some (.ref C)
end
theorem pe_mkRX {X : Cx} {W : WX} {k j : Nat} {x : Str} {C : Addr} {sp : Sp} {e : Expr} {es : List Expr} {t : TA} {p pos : Pos} (c : MakRX X.prog X.w X.K X.mg X.base k x C sp) (hr : Room j X.A) (hk : k + 1 ≤ j) (hg : Gl X x) (tkX : L2N.Takes X W) (ha : PA X (e :: es) t)
    (hdb : (x == ("__debug__" : Str)) = false := by decide) (he : starEach (e :: es) X.env = (false, eval e X.env) :: starEach es X.env := by rfl) (hpl : (backTo pos (starEach es X.env)).any (·.1) = false := by rfl) :
    PE X (.Call (.Name x p) (e :: es) [] pos) (tMakS C sp (WE W) t) := by
  obtain ⟨f, M, F, hm⟩ := c.ex
  refine ⟨fun pins s σ H Q I h => ?_⟩
  refine wpAny_Call_Name_kw (ld_glob I hg hm ?_ hdb)
  refine PySem.W.callWith_K (h₀ := X.base) I.ok.mod.kin M.kp (thn (ha.run pos pins s σ H _ I h) fun us s1 ⟨vs, H1, I1, r, q⟩ => ⟨I1.kIn, ?_⟩) he hpl
  have hq := q (s1.heap.objs.size + 1) s1.heap.objs.size (I1.hok.fresh (Nat.le_succ _)) (I1.hok.fresh (Nat.le_refl _)) (Nat.ne_of_lt (Nat.lt_succ_self _))
  have I2 := Inv.made (C := C) I1
  have r2 : Vals (V.ref (s1.heap.objs.size + 1) :: vs) (Value.ref (s1.heap.objs.size + 1) :: us) := .cons rfl r
  refine wpAny_call (make_map (f := f) I1.kIn M.makes M.init (beq_iff_eq.mp M.fn) (codeAny_mono (F _ X.stack _ _ (Value.ref (s1.heap.objs.size + 1) :: us) _ _ (WE W σ) ((hr.mono hk).make C us []) (I2.env0.make C us []) r2 hq) fun r s' hq' => ?_))
  cases r with
  | error e => exact L2N.passAt tkX σ pins _ _ e s' I2 hq'
  | ok fl =>
    cases fl with
    | ret u =>
      obtain ⟨v, H', I3, rv, ev, q3⟩ := I2.after hq'
      subst ev
      exact ⟨rv, V.ref (s1.heap.objs.size + 1), H', I3, rfl, q3⟩
    | next => exact False.elim hq'
    | brk => exact False.elim hq'
    | cont => exact False.elim hq'
section
variable {F : FmKit} {T : Kx} {G : Gm} {W : Om} {W0 : WX} {E : En} {ex : EX}
/-- try, with an exception that is kept behind its handler -/
theorem swx_tryK {tb : (Ends → WX) → TS} {sx : Addr → Value → Option Addr → TS} {cc i : Nat} {ex1 : EX} (hp : ∀ w B, tb w B = tb (fun _ => w B) B) (hb : ∀ W1, SwX F T W1 (tb fun _ => W1) G W E ex1)
    (hs : ∀ c d G' W', ex1 c d G' W' → ∃ b, PySem.W.exmOne T.K (.ref (T.cl c)) (.ref (T.cl cc)) = some b ∧ (b = true → ∀ a, Sw F T (sx a (.ref (T.cl c)) (dq c d)) (G'.set i (some (.adr a))) W'
      { nx := fun G2 W2 => E.nx (G2.set i none) ((a, .any (XvO (.ref (T.cl c)) (dq c d) a)) :: W2), rt := fun _ _ => False, bk := fun _ _ => False, ct := fun _ _ => False }) ∧ (b = false → ex c d G' W')) :
    ∀ wx, wKp T.K (.ref (T.cl cc)) i sx W0 = wx → SwX F T W0 (tb wx) G W E ex := by
  rintro _ rfl
  have e : (fun B σ H => tb (fun _ => wKp T.K (.ref (T.cl cc)) i sx W0 B) B σ H) = tb (wKp T.K (.ref (T.cl cc)) i sx W0) := funext fun B => (hp _ B).symm
  rw [← e]
  refine fun C H O σ w xo B b => hb _ C H O σ w (fun c d G' W' H' O' σ' e n l => ?_) B b
  obtain ⟨bb, h1, h2, h3⟩ := hs c d G' W' e
  refine ⟨bb, h1, fun q a ha => ?_, fun q => xo c d G' W' H' O' σ' (h3 q) n l⟩
  refine h2 q a C H' O' _ ⟨n.dis, n.oc, l.set rfl, n.own⟩ _ ⟨fun G2 W2 H2 O2 σ2 z n2 l2 ha2 => ?_, fun _ _ _ _ _ z _ _ => z.elim, fun _ _ _ _ _ z _ _ => z.elim, fun _ _ _ _ _ z _ _ => z.elim⟩
  obtain ⟨n3, e4, np⟩ := n2.newO (od := .any (XvO (.ref (T.cl c)) (dq c d) a)) (o := XvO (.ref (T.cl c)) (dq c d) a) ha2 rfl
  show B.nx _ _
  rw [e4]
  exact b.nx _ _ _ _ _ z (n.trans n3) (l2.forget none)
end
open L2H (RoomH PinOk cxH inv_startH)
structure FnSG (P : Program) (w : World) (K : PySem.W.Frag) (mg : Str → Option Value) (base : Heap) (k : Nat) (f : Addr) (fd : FuncData) (ps : List Str) (a : Addr) (cls : Value) (d : Option Addr) (sp : Sp) : Prop where
  len : ∀ vs H Q E, sp vs H Q E → vs.length = ps.length
  run : ∀ (A : Around) (outer : List Env) (s : Shared) (H : Hp) (args : Args) (us : List Value) (vs : List V) (Q : VK) (E : XK) (oe : Obj), RoomH k A → A.guards = some [] → A.handled = some (.ref a) → L2N.Zn cls d oe → (∃ vs, oe.data = .fields vs) → PinOk outer H s (a, oe) → Env0 P w K mg base A outer s H → BindsTo s fd args (ps.zip us) → Vals vs us → sp vs H Q E →
    codeAny (model P w) A (.call (.ref f) args) (CR CX0 outer P w H s Q E) s
theorem fn_ofSG {P : Program} {w : World} {K : PySem.W.Frag} {mg : Str → Option Value} {base : Heap} {k : Nat} {f : Addr} {name qual : Str} {params : Arguments} {body : List Stmt} {scope : Scope} {dV kV doc pm cdv ct oc : Value} {an od : Option Addr}
    {osl : Array (Option Value)} {N ps : List Str} {sp : Sp} {a : Addr} {cls : Value} {d : Option Addr} (lk : K.lookup f = some ⟨oc, od, .func (PySem.W.fnOf name qual params body scope dV kV doc pm an cdv ct), osl⟩) (hcd : PySem.W.codeIn K cdv qual = true) (S : FnScope N ps scope)
    (len : ∀ vs H Q E, sp vs H Q E → vs.length = ps.length)
    (hbody : ∀ (A : Around) (outer : List Env) (s : Shared) (H : Hp) (vs : List V) (Q : VK) (E : XK) (oe : Obj), A.guards = some [] → A.handled = some (.ref a) → L2N.Zn cls d oe → (∃ vs, oe.data = .fields vs) → RoomH k (A.deeper (envOfC qual scope s.heap.objs.size f cdv)) → sp vs H Q E →
      ∃ t, PSs (cxH CX0 P w K mg base N qual scope f cdv A outer s H E (a, oe)) body t ∧ t { nx := fun _ H' => Q .non H', rt := Q } (L2.start N vs) H) :
    FnSG P w K mg base (k + 1) f (PySem.W.fnOf name qual params body scope dV kV doc pm an cdv ct) ps a cls d sp := by
  refine ⟨len, fun A outer s H args us vs Q E oe hr hgd hh hz hf hpin e0 hb r hsp => ?_⟩
  have hl := len _ _ _ _ hsp
  have KX : K.In s.heap := e0.mod.kin.keeps fun b o e => (e0.bs b o e).1
  have lim : s.heap.NoLimit := e0.mod.nolimit.keeps fun b o e => (e0.bs b o e).1
  have hkind : ∀ y ∈ ps.zip us, scope.names.lookup y.1 = some .local ∨ (scope.names.lookup y.1 = some .cell ∧ ((cellsFrom (s.heap.objs.size + 1) scope.names []).lookup y.1).isSome = true) := fun ⟨n, v⟩ hy => by
    rcases S.par n (List.of_mem_zip hy).1 with q | q
    · exact .inl q
    · exact .inr ⟨q, PySem.W.cellsFrom_some _ _ _ (.inl q)⟩
  refine codeAny_call_function hr.depth (KX _ _ lk) rfl S.co S.gen rfl (PySem.W.codeRec_of KX hcd) (hb _ _ _ _ ?_)
  refine wpAny_newFunctionEnv_cells S.kind hkind fun env he s1 x => ?_
  subst he
  refine ⟨lim.keeps x.toInCall.keep, codeAny_func ?_⟩
  obtain ⟨t, ht, hq⟩ := hbody A outer s H vs Q E oe hgd hh hz hf (hr.deeper _) hsp
  have I : Inv (cxH CX0 P w K mg base N qual scope f cdv A outer s H E (a, oe)) [] (L2.start N vs) H s1 := inv_startH S hpin e0 hl r x
  refine wpAny_mono (ht.run [] s1 (L2.start N vs) H _ I hq) (fun fl s' hs => ?_) fun e s' hs => hs
  have fin : ∀ {σ' : L2.St} {H' : Hp} {v : V} {u : Value}, Inv (cxH CX0 P w K mg base N qual scope f cdv A outer s H E (a, oe)) [] σ' H' s' → RelV v u → Q v H' → CE outer P w H s Q u s' :=
    fun {σ' H' v u} J rv q => ⟨v, H', J.os, J.bare, J.base, J.hok, rv, q⟩
  cases fl with
  | ret u =>
    obtain ⟨v, σ', H', J, rv, q⟩ := hs
    exact fin J rv q
  | next =>
    obtain ⟨σ', H', J, q⟩ := hs
    exact fin (v := V.non) (u := Value.none) J rfl q
  | brk =>
    obtain ⟨_, _, _, q⟩ := hs
    exact False.elim q
  | cont =>
    obtain ⟨_, _, _, q⟩ := hs
    exact False.elim q
structure CalSG (P : Program) (w : World) (K : PySem.W.Frag) (mg : Str → Option Value) (base : Heap) (k : Nat) (x : Str) (a : Addr) (cls : Value) (d : Option Addr) (sp : Sp) : Prop where
  ex : ∃ (f : Addr) (fd : FuncData) (ps : List Str), FnSG P w K mg base k f fd ps a cls d sp ∧ mg x = some (.ref f) ∧ PySem.W.keepIn K (.ref f) = true ∧ Binds K fd ps []
section
variable {P : Program} {w : World} {K : PySem.W.Frag} {mg : Str → Option Value} {base : Heap} {F : FmKit} {cl : Nat → Addr} {S : FS} {a : Addr} {cls : Value} {d : Option Addr}
theorem calSG {x : Str} {st : Stmt} {f : Addr} {fd : FuncData} {N ps : List Str} {k : Nat} (hm : mg x = some (.ref f)) (Fn : Fun K x x st f fd) (Sc : FnScope N ps (defScope st)) (len : ∀ ds W post, S ds W post → ds.length = ps.length)
    (hb : ∀ (kV doc pm : Value) (an : Option Addr) (cdv ct : Value) (us : List Value), us.length = ps.length → bindArgs (PySem.W.fnOf x x (defArgs st) (defBody st) (defScope st) .none kV doc pm an cdv ct) ⟨us, []⟩ = pure (ps.zip us))
    (body : ∀ (cdv : Value) (A : Around) (outer : List Env) (s : Shared) (H : Hp) (E : XK) (oe : Obj), A.guards = some [] → A.handled = some (.ref a) → L2N.Zn cls d oe → (∃ vs, oe.data = .fields vs) → RoomH k (A.deeper (envOfC x (defScope st) s.heap.objs.size f cdv)) →
      ∃ t, PSs (cxH CX0 P w K mg base N x (defScope st) f cdv A outer s H E (a, oe)).nox (defBody st) t ∧ ∀ ds W post, S ds W post → Sw F ⟨K, cl⟩ t (startD N ds) W (E_ post)) : CalSG P w K mg base (k + 1) x a cls d (spN F ⟨K, cl⟩ S) := by
  have kp := Fn.kp
  have bd := Fn.binds hb
  obtain ⟨oc, od, kV, doc, pm, an, cdv, ct, osl, rfl, lk, hcd⟩ := Fn.ex
  refine ⟨f, _, ps, fn_ofSG lk hcd Sc (spN_len len) fun A outer s H vs Q E oe hgd hh hz hf hr hsp => ?_, hm, kp, bd⟩
  obtain ⟨t, ht, b⟩ := body cdv A outer s H E oe hgd hh hz hf hr
  exact ⟨t, ht.nox, body_run hsp b⟩
end
theorem pe_cSG {X : Cx} {k j : Nat} {x : Str} {a : Addr} {cls : Value} {d : Option Addr} {oe : Obj} {sp : Sp} {e : Expr} {es : List Expr} {t : TA} {p pos : Pos} (c : CalSG X.prog X.w X.K X.mg X.base k x a cls d sp) (hr : RoomH j X.A) (hgd : X.A.guards = some []) (hk : k ≤ j) (hp : (a, oe) ∈ X.pn) (hh : X.A.handled = some (.ref a)) (hz : L2N.Zn cls d oe) (hf : ∃ vs, oe.data = .fields vs) (hg : Gl X x) (ha : PA X (e :: es) t)
    (hdb : (x == ("__debug__" : Str)) = false := by decide) (he : starEach (e :: es) X.env = (false, eval e X.env) :: starEach es X.env := by rfl) (hpl : (backTo pos (starEach es X.env)).any (·.1) = false := by rfl) :
    PE X (.Call (.Name x p) (e :: es) [] pos) (tCall sp [] C8.E0 t) := by
  obtain ⟨f, fd, ps, F, hm, kp, hb⟩ := c.ex
  refine ⟨fun pins s σ H Q I h => ?_⟩
  refine wpAny_Call_Name_kw (ld_glob I hg hm ?_ hdb)
  refine PySem.W.callWith_K (h₀ := X.base) I.ok.mod.kin kp (thn (ha.run pos pins s σ H _ I h) fun us s1 ⟨vs, H1, I1, r, q⟩ => ⟨I1.kIn, ?_⟩) he hpl
  have q : sp vs H1 Q C8.E0 := by
    have q : sp (vs ++ []) H1 Q C8.E0 := q
    rwa [List.append_nil] at q
  have hl : us.length = ps.length := by rw [← r.length]; exact F.len _ _ _ _ q
  have b := hb s1 us I1.kIn (by rw [List.append_nil]; exact hl)
  rw [List.append_nil] at b
  have P1 := I1.pin (a, oe) (List.mem_append_left _ hp)
  have hpin : PinOk X.stack H1 s1 (a, oe) := ⟨P1.1, P1.2.1, fun hm => (List.mem_cons.mp (I1.stkSub a hm)).elim P1.2.2.1 P1.2.2.2.1, P1.2.2.2.2⟩
  refine wpAny_call (codeAny_mono (F.run X.A X.stack s1 H1 ⟨us, []⟩ us vs Q C8.E0 oe (hr.mono hk) hgd hh hz hf hpin I1.env0 b r q) fun r s' hq => ?_)
  cases r with
  | error e => exact C8.pass0 (E := C8.E0) pins σ H1 s1 e s' I1 hq
  | ok fl =>
    cases fl with
    | ret u => exact I1.after hq
    | next => exact False.elim hq
    | brk => exact False.elim hq
    | cont => exact False.elim hq
end N
set_option linter.all false
set_option Elab.async false
set_option linter.all false
set_option maxRecDepth 100000
set_option maxHeartbeats 1000000
namespace N
open PySem PySem.Spec PyProof.Rows L2
/-- the types that may stand on the other side -/
inductive OT : String → Prop
  | str : OT "str"
  | int : OT "int"
  | bool : OT "bool"
  | non : OT "NoneType"
  | tup : OT "tuple"
  | lst : OT "list"
  | dct : OT "dict"
/-- int, bool and dict have such operators of their own -/
def fillB (op : Operator) (T : String) : Bool := T == "int" || T == "bool" || (T == "dict" && op == .BitOr)
section
variable {X : Cx} {pins : List (Addr × Obj)} {σ : L2.St} {H : Hp} {s : Shared} {k j : Nat} {C f f' : Addr} {fd : FuncData} {ps : List Str} {sp : Sp} {E : XK} {W : WX} {op : Operator}
/-- no int, no bool, no dict -/
structure Alien (K : PySem.W.Frag) (C : Addr) : Prop where
  int : PySem.W.kitOne K (.ref C) (.type "int") = some false
  bool : PySem.W.kitOne K (.ref C) (.type "bool") = some false
  dict : PySem.W.kitOne K (.ref C) (.type "dict") = some false
theorem Alien.at {K : PySem.W.Frag} (h : Alien K C) {T : String} (ht : OT T) (hf : fillB op T = true) : PySem.W.kitOne K (.ref C) (.type T) = some false := by
  cases ht with
  | int => exact h.int
  | bool => exact h.bool
  | dct => exact h.dict
  | str => exact absurd hf (by simp [fillB])
  | non => exact absurd hf (by simp [fillB])
  | tup => exact absurd hf (by simp [fillB])
  | lst => exact absurd hf (by simp [fillB])
end
end N
set_option Elab.async false
set_option linter.all false
set_option maxRecDepth 100000
set_option maxHeartbeats 1000000
set_option Elab.async false
set_option linter.all false
set_option maxRecDepth 100000
set_option maxHeartbeats 2000000
namespace N
open PySem PySem.Spec PyProof.Rows L2
mutual
/-- the datum of a value, for repr: a dict that is empty or has one text, too -/
inductive Dr (K : PySem.W.Frag) (H : Hp) : V → PyData → Prop
  | qn : Dr K H .non .none
  | qb (y : Bool) : Dr K H (.bl y) (.bool y)
  | qi (n : Int) : Dr K H (.int n) (.int n)
  | qs (t : Str) : Dr K H (.str t) (.str t)
  | ql {p : Addr} {vs : List V} {qs : List PyData} : SqL K H p vs → DrL K H vs qs → Dr K H (.ref p) (.list qs)
  | qt {p : Addr} {vs : List V} {qs : List PyData} : SqT K H p vs → DrL K H vs qs → Dr K H (.ref p) (.tuple qs)
  | qd {p : Addr} : H p = some (.dK []) → Dr K H (.ref p) (.dict [])
  | q1 {p : Addr} {k : Str} {y : V} {q : PyData} : H p = some (.dK [(Sum.inr k, y)]) → Dr K H y q → Dr K H (.ref p) (.dict [(.str k, q)])
inductive DrL (K : PySem.W.Frag) (H : Hp) : List V → List PyData → Prop
  | n : DrL K H [] []
  | c {x : V} {vs : List V} {q : PyData} {qs : List PyData} : Dr K H x q → DrL K H vs qs → DrL K H (x :: vs) (q :: qs)
end
theorem one_len {k : Str} {z : Str} (h : (dictText [(PyData.str k).shown ++ ": " ++ z]).length ≤ sizeLine) : (reprText k).length ≤ sizeLine ∧ z.length ≤ sizeLine := by
  have h1 : ((PyData.str k).shown ++ ": " ++ z).length ≤ sizeLine := Nat.le_trans (dictText_mem_le List.mem_cons_self) h
  rw [Str.length_append, Str.length_append] at h1
  have h2 : (PyData.str k).shown = reprText k := by simp only [PyData.shown]
  rw [h2] at h1
  omega
section
variable {X : Cx} {pins : List (Addr × Obj)} {σ : L2.St} {H : Hp} {s : Shared}
/-- a dict with one text in the heap -/
theorem dk_one {p : Addr} {k : Str} {y : V} (I : Inv X pins σ H s) (h : H p = some (.dK [(Sum.inr k, y)])) : ∃ o n ent t2, s.heap.get? p = some o ∧ o.cls = .type "dict" ∧ o.data = .dict #[ent] n ∧ (p == sysModules) = false ∧ ent.key = .str k t2 ∧ RelV y ent.val := by
  obtain ⟨_, hn, vs, rel, o, es, m, ho, hx, hd, _, hpp, _⟩ := dk_of I.hok h
  cases rel with
  | cons e1 rest =>
    cases rest
    rename_i kv _nd
    obtain ⟨kk, v'⟩ := kv
    obtain ⟨ek, ev⟩ := e1
    have ek : (Sum.inr k : Key) = kk := ek
    subst ek
    obtain ⟨el⟩ := es
    have hpp : Pairs _ el [(Sum.inr k, v')] := hpp
    cases hpp with
    | cons hk hv rest =>
      cases rest
      rename_i e _
      obtain ⟨t2, hk2⟩ : ∃ t2, e.key = Value.str k t2 := by
        rcases keyIs_shape (k := Sum.inr k) (v := e.key) hk with ⟨i, t, a, b⟩ | ⟨x, t, a, b⟩
        · cases a
        · injection a with a
          subst a
          exact ⟨t, b⟩
      have hv : e.val = v' := hv
      exact ⟨o, m, e, t2, ho, hx.1, hd, hn, hk2, by rw [hv]; exact ev⟩
mutual
theorem Dr.told (I : Inv X pins σ H s) : ∀ (p : PyData) (x : V) (u : Value), Dr X.K H x p → RelV x u → p.showable = true → p.shown.length ≤ sizeLine → Told X.prog X.w s.heap u p
  | .none, _, _, h, r, _, _ => by
    cases h
    cases r
    refine ⟨_, [], .none, (fun _ z => nomatch z), ?_⟩
    simp only [PyData.shown]
    exact .of_is .none _ _ _
  | .bool b, _, _, h, r, _, _ => by
    cases h
    cases r
    refine ⟨_, [], .bool b, (fun _ z => nomatch z), ?_⟩
    simp only [PyData.shown]
    exact .of_is (.bool b) _ _ _
  | .int i, _, _, h, r, hs, _ => by
    cases h
    obtain ⟨t, rfl⟩ := r
    have hi : i.natAbs.log2 < 1920 := by simpa [PyData.showable] using hs
    refine ⟨_, [], .int i t, (fun _ z => nomatch z), ?_⟩
    simp only [PyData.shown]
    exact .of_is (.int t hi) _ _ _
  | .str y, _, _, h, r, _, hz => by
    cases h
    obtain ⟨t, rfl⟩ := r
    have hy : (reprText y).length ≤ sizeLine := by simpa only [PyData.shown] using hz
    refine ⟨_, [], .str y t, (fun _ z => nomatch z), ?_⟩
    simp only [PyData.shown]
    exact .of_is (.str y t hy) _ _ _
  | .list l, _, _, h, r, hs, hz => by
    cases h with
    | ql sq q =>
      cases r
      obtain ⟨its, rv, ⟨o, n, ho, hc, _, hd⟩, _⟩ := I.list sq
      have hl : (listText (PyData.shownAll l)).length ≤ sizeLine := by simpa only [PyData.shown] using hz
      obtain ⟨ads, bs, rd, am, k⟩ := DrL.told I l _ its q rv (by simpa [PyData.showable] using hs) fun t ht => Nat.le_trans (listText_mem_le ht) hl
      have whole : Reads s.heap _ (.list l) _ := .list ho hc hd rd
      have out := not_mem_of_deeper whole (by simp only [PyData.depth]; omega) am
      refine ⟨_, _, whole, .cons whole (by simp only [PyData.depth]; omega) am, ?_⟩
      simp only [PyData.shown, PyData.depth]
      cases its with
      | nil =>
        cases rd
        exact ReprK.listEmpty ho hc hd
      | cons y t => exact ReprK.list ho hc hd out (by simpa using k.length_eq) fun i z e => k.item i z (by simpa using e)
  | .tuple l, _, _, h, r, hs, hz => by
    cases h with
    | qt sq q =>
      cases r
      obtain ⟨its, rv, ⟨o, ho, hc, n, hd⟩, _⟩ := I.tuple sq
      have hl : (tupleText (PyData.shownAll l)).length ≤ sizeLine := by simpa only [PyData.shown] using hz
      obtain ⟨ads, bs, rd, am, k⟩ := DrL.told I l _ its q rv (by simpa [PyData.showable] using hs) fun t ht => Nat.le_trans (tupleText_mem_le ht) hl
      have whole : Reads s.heap _ (.tuple l) _ := .tuple ho hc hd rd
      have out := not_mem_of_deeper whole (by simp only [PyData.depth]; omega) am
      refine ⟨_, _, whole, .cons whole (by simp only [PyData.depth]; omega) am, ?_⟩
      simp only [PyData.shown, PyData.depth]
      exact ReprK.tuple ho hc hd out k
  | .dict kvs, _, _, h, r, hs, hz => by
    cases h with
    | qd hd =>
      cases r
      obtain ⟨o, n, ho, hc, hd, hn⟩ := dk_nil I hd
      have whole : Reads s.heap _ (.dict []) _ := .dict ho hc hd .nil .nil
      have am : ReadAtMost s.heap 0 [] := fun _ z => nomatch z
      refine ⟨_, _, whole, .cons whole (Nat.zero_le _) am, ?_⟩
      simp only [PyData.shown, PyData.depth, PyData.shownKv]
      exact ReprK.dict ho hc hd hn (fun z => nomatch z) .nil
    | q1 hp hv =>
      rename_i p k y q
      cases r
      have hsq : q.showable = true := by simpa [PyData.showable, PyData.showableKv] using hs
      have hz1 : (dictText [(PyData.str k).shown ++ ": " ++ q.shown]).length ≤ sizeLine := by simpa only [PyData.shown, PyData.shownKv] using hz
      obtain ⟨l1, l2⟩ := one_len hz1
      obtain ⟨o, n, ent, t2, ho, hc, hd, hn, ek, ev⟩ := dk_one I hp
      obtain ⟨a1, b1, r1, m1, k1⟩ := Dr.told I q _ _ hv ev hsq l2
      have whole : Reads s.heap _ (.dict [(.str k, q)]) _ := .dict ho hc hd (.cons (by show Reads s.heap ent.key (.str k) _; rw [ek]; exact .str k t2) .nil) (.cons r1 .nil)
      have e1 : PyData.depthKv [(PyData.str k, q)] = q.depth := by simp [PyData.depthKv, PyData.depth]
      have out := not_mem_of_deeper whole (by simp only [PyData.depth, e1]; omega) m1
      refine ⟨_, _, whole, .cons whole (by simp only [PyData.depth, e1]; omega) m1, ?_⟩
      simp only [PyData.shown, PyData.shownKv]
      show ReprK _ _ _ _ (PyData.depth (.dict [(.str k, q)])) _ _
      simp only [PyData.depth, e1]
      refine ReprK.dict ho hc hd hn out (.cons ?_ k1 .nil)
      rw [ek]
      exact .of_is (.str k t2 l1) _ _ _
theorem DrL.told (I : Inv X pins σ H s) : ∀ (ps : List PyData) (xs : List V) (us : List Value), DrL X.K H xs ps → Vals xs us → PyData.showableAll ps = true → (∀ t ∈ PyData.shownAll ps, t.length ≤ sizeLine) → ToldL X.prog X.w s.heap us ps
  | [], _, _, h, r, _, _ => by
    cases h
    cases r
    refine ⟨_, [], .nil, (fun _ z => nomatch z), ?_⟩
    simp only [PyData.shownAll]
    exact .nil
  | p :: ps, _, _, h, r, hs, hz => by
    cases h with
    | c q1 q2 =>
      cases r with
      | cons r1 r2 =>
        have hs : p.showable = true ∧ PyData.showableAll ps = true := by simpa [PyData.showableAll] using hs
        simp only [PyData.shownAll] at hz
        exact ToldL.c (Dr.told I p _ _ q1 r1 hs.1 (hz _ List.mem_cons_self)) (DrL.told I ps _ _ q2 r2 hs.2 fun t ht => hz t (List.mem_cons_of_mem _ ht))
end
end
def rRepU (K : PySem.W.Frag) : List V → Hp → VK → Prop := fun xs H Q => ∃ x p, xs = [x] ∧ Dr K H x p ∧ ShwQ p ∧ Q (.str p.shown) H
theorem call_reprU {X : Cx} (hg : X.A.guards = some []) (hu : X.A.units + 64 < cLine) : CallR X (.builtin "repr") (rRepU X.K) := by
  intro pins s σ H xs us Q I r h
  obtain ⟨x, p, rfl, hp, hs, q⟩ := h
  obtain ⟨u, rfl, rx⟩ := vals1 r
  have fin : ∀ t tk, EP X pins σ Q (.str p.shown t) { s with toks := tk } := fun t tk => ⟨.str p.shown, H, I.tok _, ⟨_, rfl⟩, q⟩
  have fin2 : ∀ h' t tk, (∀ b o, s.heap.get? b = some o → h'.get? b = some o) → EP X pins σ Q (.str p.shown t) { s with heap := h', toks := tk } := fun h' t tk hk => ⟨.str p.shown, H, I.kept (t' := tk) hk, ⟨_, rfl⟩, q⟩
  have hdp := hs.dp
  cases hp with
  | qn =>
    cases rx
    exact PySem.P.repr_of_none (fin _ _)
  | qb b =>
    cases rx
    refine PySem.P.repr_of_bool ?_
    have e : (if b then "True" else "False" : Str) = (PyData.bool b).shown := by cases b <;> rfl
    exact fin _ _
  | qi i =>
    obtain ⟨t, rfl⟩ := rx
    have h1 : i.natAbs.log2 < 1920 := by simpa [PyData.showable] using hs.sh
    exact PySem.P.repr_of_int h1 (fin _ _)
  | qs z =>
    obtain ⟨t, rfl⟩ := rx
    exact PySem.P.repr_of_str (fin _ _) (by simpa [PyData.shown] using hs.sz)
  | ql sq ql =>
    rename_i a vs l
    cases rx
    obtain ⟨its, rv, ⟨o, n, ho, hc, _, hd⟩, _⟩ := I.list sq
    have hl : (listText (PyData.shownAll l)).length ≤ sizeLine := by simpa only [PyData.shown] using hs.sz
    obtain ⟨ads, bs, rd, am, k⟩ := DrL.told I l _ its ql rv (by simpa [PyData.showable] using hs.sh) fun t ht => Nat.le_trans (listText_mem_le ht) hl
    have whole : Reads s.heap _ (.list l) _ := .list ho hc hd rd
    have out := not_mem_of_deeper whole (by simp only [PyData.depth]; omega) am
    simp only [PyData.depth] at hdp
    simp only [PyData.shown] at fin2
    refine call_repr_slot (by omega) ⟨o, ho, hc⟩ F.slot_list_repr.toG ?_
    cases its with
    | nil =>
      cases rd
      simp only [PyData.shownAll, listText_nil] at fin2
      exact call_list_repr_empty ⟨o, ho, hc⟩ ho hd ⟨_, _, rfl, fin2 _ _ _ fun _ _ e => e⟩
    | cons y t => exact call_list_reprK (h₀ := s.heap) ho hc hd out (by simpa using k.length_eq) (fun i z e => k.item i z (by simpa using e)) hg (fun b _ => Clear.nil b) (by show X.A.units + 1 + _ < _; omega) (fun _ _ e => e) (fun h' u tk hk => ⟨_, _, rfl, fin2 h' u tk hk⟩) hl
  | qt sq ql =>
    rename_i a vs l
    cases rx
    obtain ⟨its, rv, ⟨o, ho, hc, n, hd⟩, _⟩ := I.tuple sq
    have hl : (tupleText (PyData.shownAll l)).length ≤ sizeLine := by simpa only [PyData.shown] using hs.sz
    obtain ⟨ads, bs, rd, am, k⟩ := DrL.told I l _ its ql rv (by simpa [PyData.showable] using hs.sh) fun t ht => Nat.le_trans (tupleText_mem_le ht) hl
    have whole : Reads s.heap _ (.tuple l) _ := .tuple ho hc hd rd
    have out := not_mem_of_deeper whole (by simp only [PyData.depth]; omega) am
    simp only [PyData.depth] at hdp
    simp only [PyData.shown] at fin2
    refine call_repr_slot (by omega) ⟨o, ho, hc⟩ F.slot_tuple_repr ?_
    exact call_tuple_reprK (h₀ := s.heap) ho hc hd out k hg (fun b _ => Clear.nil b) (by show X.A.units + 1 + _ < _; omega) (fun _ _ e => e) (fun h' u tk hk => ⟨_, _, rfl, fin2 h' u tk hk⟩) hl
  | qd hd =>
    rename_i a
    cases rx
    obtain ⟨o, n, ho, hc, hd, hn⟩ := dk_nil I hd
    simp only [PyData.shown, PyData.shownKv] at fin2
    refine call_repr_slot (by omega) ⟨o, ho, hc⟩ F.slot_dict_repr ?_
    exact call_dict_reprK (h₀ := s.heap) (as := []) (d := 0) ho hc hd hn (fun z => nomatch z) .nil hg (fun b _ => Clear.nil b) (by show X.A.units + 1 + _ < _; omega) (fun _ _ e => e) (fun h' u tk hk => ⟨_, _, rfl, fin2 h' u tk hk⟩) (by simpa only [PyData.shown, PyData.shownKv] using hs.sz)
  | q1 hp2 hv =>
    rename_i a k y q0
    cases rx
    have hsq : q0.showable = true := by simpa [PyData.showable, PyData.showableKv] using hs.sh
    have hz1 : (dictText [(PyData.str k).shown ++ ": " ++ q0.shown]).length ≤ sizeLine := by simpa only [PyData.shown, PyData.shownKv] using hs.sz
    obtain ⟨l1, l2⟩ := one_len hz1
    obtain ⟨o, n, ent, t2, ho, hc, hd, hn, ek, ev⟩ := dk_one I hp2
    obtain ⟨a1, b1, r1, m1, k1⟩ := Dr.told I q0 _ _ hv ev hsq l2
    have whole : Reads s.heap _ (.dict [(.str k, q0)]) _ := .dict ho hc hd (.cons (by show Reads s.heap ent.key (.str k) _; rw [ek]; exact .str k t2) .nil) (.cons r1 .nil)
    have e1 : PyData.depthKv [(PyData.str k, q0)] = q0.depth := by simp [PyData.depthKv, PyData.depth]
    have out := not_mem_of_deeper whole (by simp only [PyData.depth, e1]; omega) m1
    simp only [PyData.depth, e1] at hdp
    simp only [PyData.shown, PyData.shownKv] at fin2
    refine call_repr_slot (by omega) ⟨o, ho, hc⟩ F.slot_dict_repr ?_
    have hE : ReprEntriesK X.prog X.w b1 s.heap q0.depth (#[ent] : Array DictEntry).toList [(PyData.str k).shown ++ ": " ++ q0.shown] := by
      refine .cons ?_ k1 .nil
      rw [ek]
      simp only [PyData.shown]
      exact .of_is (.str k t2 l1) _ _ _
    simp only [PyData.shown] at hE
    exact call_dict_reprK (h₀ := s.heap) ho hc hd hn out hE hg (fun b _ => Clear.nil b) (by show X.A.units + 1 + _ < _; omega) (fun _ _ e => e) (fun h' u tk hk => ⟨_, _, rfl, fin2 h' u tk hk⟩) hz1
end N
set_option Elab.async false
set_option linter.all false
set_option maxRecDepth 100000
set_option maxHeartbeats 2000000
namespace N
open PySem PySem.Spec PyProof.Rows L2
def Drv (d : D) (q : PyData) : Prop := ∀ (F : FmKit) (T : Kx) (H O : Hp), Dis O H → ∀ x, Den F T H d x → Dr T.K (ov O H) x q
theorem ca_reprU {F : FmKit} {T : Kx} {W : Om} {R : D → Om → Prop} {d : D} {q : PyData} (h : Drv d q) (hs : ShwQ q) (r : R (.str q.shown) W) : Ca F T (rRepU T.K) [d] W R := ca_one fun C H O di oc ow x k Q qq =>
  ⟨x, q, rfl, h F T H O di x k, hs, qq _ W H O _ r (.refl di oc ow) rfl⟩
inductive Drvs : List D → List PyData → Prop
  | n : Drvs [] []
  | c {d : D} {q : PyData} {ds : List D} {qs : List PyData} : Drv d q → Drvs ds qs → Drvs (d :: ds) (q :: qs)
theorem Drvs.run {F : FmKit} {T : Kx} {H O : Hp} (di : Dis O H) : ∀ {ds : List D} {qs : List PyData}, Drvs ds qs → ∀ xs, DenL F T H ds xs → DrL T.K (ov O H) xs qs
  | _, _, .n, xs, k => by
    have k : xs = [] := k
    subst k
    exact .n
  | _, _, .c h t, xs, k => by
    obtain ⟨x, r, rfl, k1, k2⟩ := k
    exact .c (h F T H O di x k1) (t.run di r k2)
theorem drv_non : Drv .non .none := fun F T H O di x k => by
  have k : x = .non := k
  subst k
  exact .qn
theorem drv_bl (b : Bool) : Drv (.bl b) (.bool b) := fun F T H O di x k => by
  have k : x = .bl b := k
  subst k
  exact .qb b
theorem drv_int (i : Int) : Drv (.int i) (.int i) := fun F T H O di x k => by
  have k : x = .int i := k
  subst k
  exact .qi i
theorem drv_str (s : Str) : Drv (.str s) (.str s) := fun F T H O di x k => by
  have k : x = .str s := k
  subst k
  exact .qs s
theorem drv_lst {ds : List D} {qs : List PyData} (h : Drvs ds qs) : Drv (.lst ds) (.list qs) := fun F T H O di x k => by
  obtain ⟨a, xs, rfl, hs, kl⟩ := k
  exact .ql (SqL.of (di.same _ _ hs)) (h.run di xs kl)
theorem drv_tup {ds : List D} {qs : List PyData} (h : Drvs ds qs) : Drv (.tup ds) (.tuple qs) := fun F T H O di x k => by
  obtain ⟨a, xs, rfl, hs, kl⟩ := k
  exact .qt (Same.sqT di.same hs) (h.run di xs kl)
theorem drv_d0 : Drv (.dct [] []) (.dict []) := fun F T H O di x k => by
  obtain ⟨a, kvs, rfl, h2, h3, _, _⟩ := k
  rw [List.map_eq_nil_iff] at h3
  subst h3
  exact .qd (di.same _ _ h2)
/-- a value, with what repr tells: its leaves short, its weight, its depth -/
structure Vok (m n : Nat) (d : D) (q : PyData) : Prop where
  dr : Drv d q
  sh : q.showable = true
  lf : q.leavesShort 400 = true
  wt : q.weight ≤ m
  dp : q.depth ≤ n
inductive Voks (m n : Nat) : List D → List PyData → Prop
  | n : Voks m n [] []
  | c {d : D} {q : PyData} {ds : List D} {qs : List PyData} : Vok m n d q → Voks m n ds qs → Voks m n (d :: ds) (q :: qs)
theorem Voks.len {m n : Nat} : ∀ {ds : List D} {qs : List PyData}, Voks m n ds qs → qs.length = ds.length
  | _, _, .n => rfl
  | _, _, .c _ t => congrArg (· + 1) t.len
theorem Voks.all {m n : Nat} : ∀ {ds : List D} {qs : List PyData}, Voks m n ds qs → Drvs ds qs ∧ PyData.showableAll qs = true ∧ PyData.leavesShortAll 400 qs = true ∧ PyData.weightAll qs ≤ (m + 2) * qs.length + 2 ∧ PyData.depthAll qs ≤ n
  | _, _, .n => ⟨.n, rfl, rfl, by simp [PyData.weightAll], by simp [PyData.depthAll]⟩
  | _, _, .c h t => by
    obtain ⟨h1, h2, h3, h4, h5⟩ := t.all
    refine ⟨.c h.dr h1, ?_, ?_, ?_, ?_⟩
    · rw [PyData.showableAll, h.sh, h2]; rfl
    · rw [PyData.leavesShortAll, h.lf, h3]; rfl
    · have := h.wt
      rw [PyData.weightAll, List.length_cons, Nat.mul_add]
      omega
    · have := h.dp
      rw [PyData.depthAll]
      omega
theorem Voks.app {m n : Nat} {d : D} {q : PyData} (h : Vok m n d q) : ∀ {ds : List D} {qs : List PyData}, Voks m n ds qs → Voks m n (ds ++ [d]) (qs ++ [q])
  | _, _, .n => .c h .n
  | _, _, .c h1 t => .c h1 (t.app h)
theorem Vok.mono {m n m' n' : Nat} {d : D} {q : PyData} (h : Vok m n d q) (h1 : m ≤ m') (h2 : n ≤ n') : Vok m' n' d q := ⟨h.dr, h.sh, h.lf, Nat.le_trans h.wt h1, Nat.le_trans h.dp h2⟩
def ec (i : Nat) : Nat := if i < 10 then 30 + i else 90 + i
def errF (i : Nat) : Str := if i = 0 then "value" else if i = 1 then "place" else if i = 2 ∨ i = 3 ∨ i = 7 then "part" else if i = 4 ∨ i = 5 then "mark" else if i = 6 then "web" else if i = 9 then "wish" else "name"
/-- an error with what it was made of -/
def ErrV (cl : Nat → Addr) (hx : Hx) (i : Nat) (z : D) (a : Addr) (W : Om) : Prop := if i < 10 then ∃ d, ErrAt cl hx a (ec i) (some d) W ∧ FldAt (some d) [(errF i, z)] W else ErrAt cl hx a (ec i) none W
theorem ErrV.mono {cl : Nat → Addr} {hx : Hx} {i : Nat} {z : D} {a : Addr} {W W' : Om} (h : ErrV cl hx i z a W) (s : ∀ x ∈ W, x ∈ W') : ErrV cl hx i z a W' := by
  unfold ErrV at *
  split at h
  · rename_i hi
    rw [if_pos hi]
    obtain ⟨d, h1, h2⟩ := h
    exact ⟨d, h1.mono s, h2.mono s⟩
  · rename_i hi
    rw [if_neg hi]
    exact h.mono s
theorem ErrV.any {cl : Nat → Addr} {hx : Hx} {i : Nat} {z : D} {a : Addr} {W : Om} (h : ErrV cl hx i z a W) : ∃ d fs, ErrAt cl hx a (ec i) d W ∧ FldAt d fs W := by
  unfold ErrV at h
  split at h
  · obtain ⟨d, h1, h2⟩ := h
    exact ⟨_, _, h1, h2⟩
  · exact ⟨none, [], h, .inl ⟨rfl, rfl⟩⟩
theorem lay_bl01 (l : List Bool) : PyData.canLayAll0 (l.map .bool) = true := by
  induction l with
  | nil => rfl
  | cons i l ih => rw [List.map_cons, PyData.canLayAll0, ih]; rfl
theorem dep_bl01 (l : List Bool) : PyData.depthAll (l.map .bool) = 0 := by
  induction l with
  | nil => rfl
  | cons i l ih => rw [List.map_cons, PyData.depthAll, ih]; rfl
end N
set_option Elab.async false
set_option linter.all false
set_option maxRecDepth 100000
set_option maxHeartbeats 2000000
namespace N
open PySem PySem.Spec PyProof.Rows L2
def odd02 : List (D × PyData) := [(.str "", .str ""), (.str "ab", .str "ab"), (.str "no", .str "no"), (.str "all", .str "all"), (.str "1", .str "1"), (.str " ", .str " "), (.str "(", .str "("), (.str "all a", .str "all a"),
  (.int 0, .int 0), (.int 1, .int 1), (.int (-1), .int (-1)), (.bl true, .bool true), (.bl false, .bool false), (.non, .none), (.tup [], .tuple []), (.lst [], .list []), (.dct [] [], .dict []), (.tup [.str "a"], .tuple [.str "a"]), (.lst [.str "a"], .list [.str "a"]), (.int (10 ^ (39 : Int).toNat), .int (10 ^ (39 : Int).toNat))]
/-- no formula, and no letter -/
structure Od (d : D) (q : PyData) : Prop where
  dr : Drv d q
  sh : ShwQ q
  tx : (∃ s : Str, d = .str s ∧ s.length ≤ 10 ∧ isLet s = false) ∨ notStr d
theorem shw_small {q : PyData} (h : q.showable = true) (h1 : q.leavesShort 400 = true) (h2 : q.weight ≤ 1000) (h3 : q.depth ≤ 30) : ShwQ q := by
  have e := PyData.shown_le 400 (by decide) q h1
  have h16 := sizeLine_eq
  have hm : (400 + 2) * q.weight ≤ (400 + 2) * 1000 := Nat.mul_le_mul_left _ h2
  exact ⟨h, by omega, by omega⟩
theorem odd02_ok : ∀ p ∈ odd02, Od p.1 p.2 := by
  intro p hp
  simp only [odd02, List.mem_cons, List.not_mem_nil, or_false] at hp
  rcases hp with rfl | rfl | rfl | rfl | rfl | rfl | rfl | rfl | rfl | rfl | rfl | rfl | rfl | rfl | rfl | rfl | rfl | rfl | rfl | rfl
  · exact ⟨drv_str _, shw_small (by decide +kernel) (by decide +kernel) (by decide +kernel) (by decide +kernel), .inl ⟨_, rfl, by decide +kernel, by decide +kernel⟩⟩
  · exact ⟨drv_str _, shw_small (by decide +kernel) (by decide +kernel) (by decide +kernel) (by decide +kernel), .inl ⟨_, rfl, by decide +kernel, by decide +kernel⟩⟩
  · exact ⟨drv_str _, shw_small (by decide +kernel) (by decide +kernel) (by decide +kernel) (by decide +kernel), .inl ⟨_, rfl, by decide +kernel, by decide +kernel⟩⟩
  · exact ⟨drv_str _, shw_small (by decide +kernel) (by decide +kernel) (by decide +kernel) (by decide +kernel), .inl ⟨_, rfl, by decide +kernel, by decide +kernel⟩⟩
  · exact ⟨drv_str _, shw_small (by decide +kernel) (by decide +kernel) (by decide +kernel) (by decide +kernel), .inl ⟨_, rfl, by decide +kernel, by decide +kernel⟩⟩
  · exact ⟨drv_str _, shw_small (by decide +kernel) (by decide +kernel) (by decide +kernel) (by decide +kernel), .inl ⟨_, rfl, by decide +kernel, by decide +kernel⟩⟩
  · exact ⟨drv_str _, shw_small (by decide +kernel) (by decide +kernel) (by decide +kernel) (by decide +kernel), .inl ⟨_, rfl, by decide +kernel, by decide +kernel⟩⟩
  · exact ⟨drv_str _, shw_small (by decide +kernel) (by decide +kernel) (by decide +kernel) (by decide +kernel), .inl ⟨_, rfl, by decide +kernel, by decide +kernel⟩⟩
  · exact ⟨drv_int _, shw_small (by decide +kernel) (by decide +kernel) (by decide +kernel) (by decide +kernel), .inr (.int _)⟩
  · exact ⟨drv_int _, shw_small (by decide +kernel) (by decide +kernel) (by decide +kernel) (by decide +kernel), .inr (.int _)⟩
  · exact ⟨drv_int _, shw_small (by decide +kernel) (by decide +kernel) (by decide +kernel) (by decide +kernel), .inr (.int _)⟩
  · exact ⟨drv_bl _, shw_small (by decide +kernel) (by decide +kernel) (by decide +kernel) (by decide +kernel), .inr (.bl _)⟩
  · exact ⟨drv_bl _, shw_small (by decide +kernel) (by decide +kernel) (by decide +kernel) (by decide +kernel), .inr (.bl _)⟩
  · exact ⟨drv_non, shw_small (by decide +kernel) (by decide +kernel) (by decide +kernel) (by decide +kernel), .inr .non⟩
  · exact ⟨drv_tup .n, shw_small (by decide +kernel) (by decide +kernel) (by decide +kernel) (by decide +kernel), .inr (.tup _)⟩
  · exact ⟨drv_lst .n, shw_small (by decide +kernel) (by decide +kernel) (by decide +kernel) (by decide +kernel), .inr (.lst _)⟩
  · exact ⟨drv_d0, shw_small (by decide +kernel) (by decide +kernel) (by decide +kernel) (by decide +kernel), .inr (.dct _ _)⟩
  · exact ⟨drv_tup (.c (drv_str _) .n), shw_small (by decide +kernel) (by decide +kernel) (by decide +kernel) (by decide +kernel), .inr (.tup _)⟩
  · exact ⟨drv_lst (.c (drv_str _) .n), shw_small (by decide +kernel) (by decide +kernel) (by decide +kernel) (by decide +kernel), .inr (.lst _)⟩
  · exact ⟨drv_int _, shw_small (by decide +kernel) (by decide +kernel) (by decide +kernel) (by decide +kernel), .inr (.int _)⟩
/-- a letter -/
abbrev ltr02 (c : Nat) : Prop := (65 ≤ c ∧ c ≤ 90) ∨ (97 ≤ c ∧ c ≤ 122)
structure sm3 (f : Fm) : Prop where
  ok : f.okL
  ht : f.ht ≤ 3
theorem sm3.sm10 {f : Fm} (h : sm3 f) : sm10 f := ⟨h.ok, by have := h.ht; omega⟩
theorem sm3.okF {f : Fm} (h : sm3 f) : f.okF := h.sm10.okF
/-- a value with what it is -/
inductive It02 : D → Str → Prop
  | lt (c : Nat) : ltr02 c → It02 (.str (sg c)) "letter"
  | fm (f : Fm) : sm3 f → It02 (.fm f) "formula"
  | odd (d : D) (q : PyData) : Od d q → It02 d "odd"
/-- kinds -/
def kinds02 : List Str := ["atom", "no", "if", "all", "not", "If", "", "ab", "1", " ", "(", "all a"]
def Kd02 (d : D) : Prop := (∃ s ∈ kinds02, d = .str s) ∨ ∃ q, Od d q ∧ notStr d
theorem odd02_kd : ∀ p ∈ odd02, Kd02 p.1 := by
  intro p hp
  have ho := odd02_ok p hp
  rcases ho.tx with ⟨s, e, _⟩ | hn
  · refine .inl ⟨s, ?_, e⟩
    simp only [odd02, List.mem_cons, List.not_mem_nil, or_false] at hp
    rcases hp with rfl | rfl | rfl | rfl | rfl | rfl | rfl | rfl | rfl | rfl | rfl | rfl | rfl | rfl | rfl | rfl | rfl | rfl | rfl | rfl
    iterate 8 (obtain rfl := V.str.inj (D.vl.inj e); decide +kernel)
    all_goals cases e
  · exact .inr ⟨_, ho, hn⟩
def cnt02 (s : Str) : Option Nat := if s = "atom" then some 1 else if s = "no" then some 0 else if s = "if" then some 2 else if s = "all" then some 1 else none
/-- all wrong parts -/
def badIx (w : Str) : Nat → List (D × Str) → List (Nat × D)
  | _, [] => []
  | i, p :: t => if p.2 = w then badIx w (i + 1) t else (i, p.1) :: badIx w (i + 1) t
def wish02 (s : Str) : Str := if s = "atom" then "letter" else "formula"
/-- what is wrong first, told by the law and by the program -/
def outF (kd : D) (its : List (D × Str)) : Option (List D × D) := match kd with
  | .vl (.str s) => match cnt02 s with
    | none => some ([.str "kind"], kd)
    | some n => if its.length = n then (badIx (wish02 s) 0 its).head?.map fun q => ([natD q.1], q.2) else some ([.str "parts"], .tup (its.map (·.1)))
  | _ => some ([.str "kind"], kd)
def dueL (o : Option (List D × D)) : List D := match o with
  | none => []
  | some p => p.1
theorem outF_not {kd : D} {its : List (D × Str)} (h : notStr kd) : outF kd its = some ([.str "kind"], kd) := by cases h <;> rfl
theorem outF_str (s : Str) (its : List (D × Str)) : outF (.str s) its = match cnt02 s with
    | none => some ([.str "kind"], .str s)
    | some n => if its.length = n then (badIx (wish02 s) 0 its).head?.map fun q => ([natD q.1], q.2) else some ([.str "parts"], .tup (its.map (·.1))) := rfl
theorem badIx_app (w : Str) : ∀ (l m : List (D × Str)) (i : Nat), badIx w i (l ++ m) = badIx w i l ++ badIx w (i + l.length) m
  | [], m, i => rfl
  | p :: l, m, i => by
    show (if p.2 = w then badIx w (i + 1) (l ++ m) else (i, p.1) :: badIx w (i + 1) (l ++ m)) = (if p.2 = w then badIx w (i + 1) l else (i, p.1) :: badIx w (i + 1) l) ++ badIx w (i + (l.length + 1)) m
    rw [badIx_app w l m (i + 1), show i + (l.length + 1) = i + 1 + l.length by omega]
    split <;> rfl
theorem badIx_good {w : Str} : ∀ {l : List (D × Str)} {i : Nat}, (∀ p ∈ l, p.2 = w) → badIx w i l = []
  | [], _, _ => rfl
  | q :: l, i, h => by
    show (if q.2 = w then badIx w (i + 1) l else (i, q.1) :: badIx w (i + 1) l) = []
    rw [if_pos (h q List.mem_cons_self)]
    exact badIx_good fun p hp => h p (List.mem_cons_of_mem _ hp)
/-- the first wrong one, found by going through -/
theorem badIx_at {w : Str} {l : List (D × Str)} {i : Nat} {p : D × Str} (h : l[i]? = some p) (hp : p.2 ≠ w) (hb : ∀ q ∈ l.take i, q.2 = w) : (badIx w 0 l).head? = some (i, p.1) := by
  obtain ⟨hi, e⟩ := List.getElem?_eq_some_iff.mp h
  have e1 : l = l.take i ++ p :: l.drop (i + 1) := by
    rw [← e, List.getElem_cons_drop, List.take_append_drop]
  rw [e1, badIx_app, badIx_good hb, List.nil_append, List.length_take, Nat.min_eq_left (by omega)]
  show (if p.2 = w then badIx w (0 + i + 1) _ else (0 + i, p.1) :: badIx w (0 + i + 1) _).head? = _
  rw [if_neg hp, Nat.zero_add]
  rfl
theorem It02.lets {d : D} {w : Str} (h : It02 d w) (e : w = "letter") : ∃ c, ltr02 c ∧ d = .str (sg c) := by
  cases h with
  | lt c hc => exact ⟨c, hc, rfl⟩
  | fm f hf => exact absurd e (by decide +kernel)
  | odd d q ho => exact absurd e (by decide +kernel)
theorem It02.fms {d : D} {w : Str} (h : It02 d w) (e : w = "formula") : ∃ f, d = .fm f ∧ sm3 f := by
  cases h with
  | lt c hc => exact absurd e (by decide +kernel)
  | fm f hf => exact ⟨f, rfl, hf⟩
  | odd d q ho => exact absurd e (by decide +kernel)
theorem sm3.all {f : Fm} (h : sm3 f) : (Fm.all f).okF := okF10 (show (Fm.all f).okL from h.ok) (by have := h.ht; simp only [Fm.ht]; omega) h.sm10.few.all (by decide)
/-- where nothing is wrong, a formula stands there -/
theorem good02 {s : Str} {its : List (D × Str)} (hi : ∀ p ∈ its, It02 p.1 p.2) {n : Nat} (hc : cnt02 s = some n) (hl : its.length = n) (hb : ∀ p ∈ its, p.2 = wish02 s) : ∃ f : Fm, s = f.kind ∧ its.map (·.1) = partsD f ∧ f.okF := by
  unfold cnt02 at hc
  have hfm : ∀ p ∈ its, s ≠ "atom" → ∃ f, p.1 = .fm f ∧ sm3 f := fun p hp hs => by
    have e := hb p hp
    unfold wish02 at e
    rw [if_neg hs] at e
    exact (hi p hp).fms e
  by_cases h1 : s = "atom"
  · subst h1
    rw [if_pos rfl] at hc
    obtain rfl : 1 = n := Option.some.inj hc
    match its, hl, hi, hb with
    | [p], _, hi, hb =>
      have e : p.2 = "letter" := hb p List.mem_cons_self
      obtain ⟨c, hc, e⟩ := (hi p List.mem_cons_self).lets e
      exact ⟨.at c, rfl, by rw [List.map_cons, e]; rfl, ⟨hc, Nat.le_of_ble_eq_true rfl, Nat.lt_of_lt_of_le Nat.zero_lt_one (Nat.le_of_ble_eq_true rfl)⟩⟩
  rw [if_neg h1] at hc
  by_cases h2 : s = "no"
  · subst h2
    rw [if_pos rfl] at hc
    obtain rfl : 0 = n := Option.some.inj hc
    match its, hl with
    | [], _ => exact ⟨.no, rfl, rfl, no_ok⟩
  rw [if_neg h2] at hc
  by_cases h3 : s = "if"
  · subst h3
    rw [if_pos rfl] at hc
    obtain rfl : 2 = n := Option.some.inj hc
    match its, hl, hfm with
    | [p, q], _, hfm =>
      obtain ⟨f, e1, f1⟩ := hfm p List.mem_cons_self h1
      obtain ⟨g, e2, f2⟩ := hfm q (List.mem_cons_of_mem _ List.mem_cons_self) h1
      exact ⟨.imp f g, rfl, by rw [List.map_cons, List.map_cons, e1, e2]; rfl, f1.sm10.imp f2.sm10⟩
  rw [if_neg h3] at hc
  by_cases h4 : s = "all"
  · subst h4
    rw [if_pos rfl] at hc
    obtain rfl : 1 = n := Option.some.inj hc
    match its, hl, hfm with
    | [p], _, hfm =>
      obtain ⟨f, e1, f1⟩ := hfm p List.mem_cons_self h1
      exact ⟨.all f, rfl, by rw [List.map_cons, e1]; rfl, f1.all⟩
  rw [if_neg h4] at hc
  cases hc
def itsOk (its : List (D × Str)) : Prop := its.length ≤ 3 ∧ ∀ p ∈ its, It02 p.1 p.2
abbrev itD02 (p : D × Str) : D := .tup [p.1, .str p.2]
def S_isletter : FS := fun ds W post => ∃ d : D, ds = [d] ∧ ((∃ c, ltr02 c ∧ d = .str (sg c) ∧ post (.bl true) W) ∨ ∃ q, Od d q ∧ post (.bl false) W)
def S_odd02 : FS := fun ds W post => ∃ (a : Addr) (c : Int), ds = [.adr a] ∧ DkA a c W ∧ c < 2 ^ 59 ∧ ∀ d q W', Od d q → Kd02 d → DkA a (c + 1) W' → post d W'
def S_part02 : FS := fun ds W post => ∃ (a : Addr) (c : Int) (fs : List Fm), ds = [.adr a, .lst (fs.map D.fm)] ∧ DkA a c W ∧ c < 2 ^ 58 ∧ fs.length = 3 ∧ (∀ f ∈ fs, sm3 f) ∧ ∀ p W', It02 p.1 p.2 → DkA a (c + 2) W' → post (itD02 p) W'
def S_due02 : FS := fun ds W post => ∃ (kd : D) (its : List (D × Str)), ds = [kd, .lst (its.map itD02)] ∧ W = [] ∧ Kd02 kd ∧ itsOk its ∧ post (.lst (dueL (outF kd its))) []
def S_initX02 : FX := fun ds W post ex => ∃ (x : Addr) (kd : D) (its : List (D × Str)), ds = [.adr x, kd, .tup (its.map (·.1))] ∧ W = [(x, .ins 0 [] [])] ∧ Kd02 kd ∧ itsOk its ∧
  (∀ f : Fm, outF kd its = none → kd = .str f.kind → its.map (·.1) = partsD f → f.okF → ∀ al, AllsD x f al f.alls → post .non [(x, .ins 0 fmNames [.str f.kind, .tup (partsD f), .int (f.many : Nat), .int (f.deep : Nat), .str f.atoms, .str f.outer, .str f.spell, .tup al])]) ∧
  ∀ l z, outF kd its = some (l, z) → ∀ e, ex 11 e [(e, .xd ["value"] [z]), (x, .ins 0 [] [])]
/-- what is called: the formula, or the error as a value -/
def S_called02 (cl : Nat → Addr) : FS := fun ds W post => ∃ (kd : D) (its : List (D × Str)), ds = [kd, .lst (its.map (·.1))] ∧ W = [] ∧ Kd02 kd ∧ itsOk its ∧
  (∀ f : Fm, outF kd its = none → kd = .str f.kind → its.map (·.1) = partsD f → f.okF → ∀ W', post (.fm f) W') ∧
  ∀ l z, outF kd its = some (l, z) → ∀ a d W', ErrAt cl none a 11 (some d) W' → FldAt (some d) [("value", z)] W' → post (.adr a) W'
/-- a value that may be written -/
def Sv (d : D) : Prop := (∃ f, d = .fm f ∧ f.okF) ∨ ∃ q, Drv d q ∧ ShwQ q ∧ ((∃ s, d = .str s) ∨ notStr d)
def S_same02 (hx : Hx) : FS := fun ds W post => ∃ d : D, ds = [d, d] ∧ ((hx = none ∧ ∃ f, d = .fm f ∧ f.okF) ∨ ∃ q, Drv d q ∧ ShwQ q ∧ ((∃ s, d = .str s) ∨ notStr d)) ∧ post (.bl true) W
def S_aresame02 : FS := fun ds W post => ∃ l : List D, ds = [.tup l, .lst l] ∧ W = [] ∧ l.length ≤ 3 ∧ (∀ d ∈ l, Sv d) ∧ post (.bl true) []
def S_right02 : FS := fun ds W post => ∃ (kd : D) (its : List (D × Str)), ds = [kd, .lst (its.map itD02)] ∧ W = [] ∧ Kd02 kd ∧ itsOk its ∧ ∀ W', post (.bl true) W'
def S_atomX02 : FX := fun ds W post ex => ∃ d : D, ds = [d] ∧ W = [] ∧ ((∃ c, ltr02 c ∧ d = .str (sg c) ∧ post (.fm (.at c)) []) ∨ ∃ q, Od d q ∧ ∀ e, ex 11 e [(e, .xd ["value"] [d])])
def S_atomright02 : FS := fun ds W post => ∃ d : D, ds = [d] ∧ W = [] ∧ ((∃ c, ltr02 c ∧ d = .str (sg c)) ∨ ∃ q, Od d q) ∧ ∀ W', post (.bl true) W'
def S_eqF02 : FS := fun ds W post => ∃ (f : Fm) (d : D), ds = [.fm f, d] ∧ ((∃ g, d = .fm g ∧ post (.bl (decide (f.spell = g.spell))) W) ∨ (((∃ s : Str, d = .str s) ∨ notStr d) ∧ post (.bl false) W))
theorem shw_ltr : ∀ c : Fin 123, 65 ≤ c.val → ((PyData.str (sg c.val)).leavesShort 400 && decide ((PyData.str (sg c.val)).weight ≤ 1000)) = true := by decide +kernel
theorem It02.sv {d : D} {w : Str} (h : It02 d w) : Sv d := by
  cases h with
  | lt c hc =>
    have h := shw_ltr ⟨c, by unfold ltr02 at hc; omega⟩ (by show 65 ≤ c; unfold ltr02 at hc; omega)
    rw [Bool.and_eq_true, decide_eq_true_eq] at h
    exact .inr ⟨.str (sg c), drv_str _, shw_small rfl h.1 h.2 (Nat.zero_le _), .inl ⟨_, rfl⟩⟩
  | fm f hf => exact .inl ⟨f, rfl, hf.okF⟩
  | odd d q ho => exact .inr ⟨q, ho.dr, ho.sh, ho.tx.imp (fun ⟨s, e, _⟩ => ⟨s, e⟩) id⟩
theorem Kd02.sv {d : D} (h : Kd02 d) : Sv d := by
  rcases h with ⟨s, hs, rfl⟩ | ⟨q, ho, hn⟩
  · refine .inr ⟨.str s, drv_str s, ?_, .inl ⟨s, rfl⟩⟩
    simp only [kinds02, List.mem_cons, List.not_mem_nil, or_false] at hs
    rcases hs with rfl | rfl | rfl | rfl | rfl | rfl | rfl | rfl | rfl | rfl | rfl | rfl <;> exact shw_small (by decide +kernel) (by decide +kernel) (by decide +kernel) (by decide +kernel)
  · exact .inr ⟨q, ho.dr, ho.sh, .inr hn⟩
theorem kdNo_get {K : PySem.W.Frag} {d : Addr} {l : List Str} {s : Str} (h : kdNo K d l = true) (hs : s ∈ l) : PySem.W.nsIn K d s = some none := of_decide_eq_true (List.all_eq_true.mp h s hs)
theorem kinds_cut {s : Str} (h : s ∈ kinds02) : (s ∈ (["not", "If", "", "ab", "1", " ", "(", "all a"] : List Str) ∧ cnt02 s = none) ∨ ∃ f : Fm, s = f.kind ∧ cnt02 s = some (partsD f).length := by
  simp only [kinds02, List.mem_cons, List.not_mem_nil, or_false] at h
  rcases h with rfl | rfl | rfl | rfl | rfl | rfl | rfl | rfl | rfl | rfl | rfl | rfl
  · exact .inr ⟨.at 97, rfl, by decide +kernel⟩
  · exact .inr ⟨.no, rfl, by decide +kernel⟩
  · exact .inr ⟨.imp .no .no, rfl, by decide +kernel⟩
  · exact .inr ⟨.all .no, rfl, by decide +kernel⟩
  all_goals exact .inl ⟨by decide +kernel, by decide +kernel⟩
theorem It02.isatom {d : D} {w : Str} {R : D → Om → Prop} {W : Om} (h : It02 d w) (r : R (.bl (decide (w = "letter"))) W) : Hand S_isatomV [d] W R := by
  have r : R (.bl (decide (w = "letter"))) ([] ++ W) := r
  cases h with
  | lt c hc =>
    refine hand0 ⟨_, rfl, rfl, .inl ⟨_, rfl, Nat.le_of_ble_eq_true rfl, ?_⟩⟩
    rw [isLet_sg, decide_eq_true hc]
    exact r
  | fm f hf =>
    refine hand0 ⟨_, rfl, rfl, .inr ⟨.inr ⟨f, rfl⟩, ?_⟩⟩
    rwa [show decide (("formula" : Str) = "letter") = false from by decide +kernel] at r
  | odd d q ho =>
    rw [show decide (("odd" : Str) = "letter") = false from by decide +kernel] at r
    rcases ho.tx with ⟨s, rfl, hl, hs⟩ | hn
    · refine hand0 ⟨_, rfl, rfl, .inl ⟨_, rfl, by omega, ?_⟩⟩
      rw [hs]
      exact r
    · exact hand0 ⟨_, rfl, rfl, .inr ⟨.inl hn, r⟩⟩
theorem It02.isfm {T : Kx} {d : D} {w : Str} {R : D → Om → Prop} {W : Om} (z : CZ T.K (T.cl 0) fmNames) (q : NotC T.K (T.cl 0)) (h : It02 d w) (r : R (.bl (decide (w = "formula"))) W) : Ca FK T (rIsi T.K) [d, .adr (T.cl 0)] W R := by
  cases h with
  | lt c hc =>
    rw [show decide (("letter" : Str) = "formula") = false from by decide +kernel] at r
    exact isi_strF z r
  | fm f hf => exact isi_fm z r
  | odd d q2 ho =>
    rw [show decide (("odd" : Str) = "formula") = false from by decide +kernel] at r
    rcases ho.tx with ⟨s, rfl, hl, hs⟩ | hn
    · exact isi_strF z r
    · exact isi_notC q hn r
theorem lets_up02 {c : Nat} : (c ∈ lets ("abcdefghijklmnopqrstuvwxyz" : Str) ∨ c ∈ lets (Txt.upper "abcdefghijklmnopqrstuvwxyz")) ↔ ltr02 c := by
  have e1 : lets ("abcdefghijklmnopqrstuvwxyz" : Str) = [97, 98, 99, 100, 101, 102, 103, 104, 105, 106, 107, 108, 109, 110, 111, 112, 113, 114, 115, 116, 117, 118, 119, 120, 121, 122] := rfl
  have e2 : lets (Txt.upper "abcdefghijklmnopqrstuvwxyz") = [65, 66, 67, 68, 69, 70, 71, 72, 73, 74, 75, 76, 77, 78, 79, 80, 81, 82, 83, 84, 85, 86, 87, 88, 89, 90] := by decide +kernel
  rw [e1, e2]
  simp only [List.mem_cons, List.not_mem_nil, or_false, ltr02]
  omega
theorem ev_upper02 {F : FmKit} {T : Kx} {G : Gm} {W : Om} {R : D → Om → Prop} {to : TE} (h : Ev F T to G W fun d W1 => ∃ a : Str, d = .str a ∧ a.length ≤ 5592405 ∧ R (.str (Txt.upper a)) W1) :
    Ev F T (tM0 (fun x xs H Q => ∃ a, x = .str a ∧ xs = [] ∧ a.length ≤ 5592405 ∧ Q (.str (Txt.upper a)) H) to) G W R := fun C H O σ w Q q =>
  h C H O σ w _ fun d W1 H1 O1 x ⟨a, ea, hl, r⟩ n1 k1 => by
    subst ea
    have k1 : x = .str a := k1
    exact ⟨⟨a, k1⟩, a, k1, rfl, hl, q _ W1 H1 O1 _ r n1 rfl⟩
def cntG : List (Key × D) := [(Sum.inr "atom", .int 1), (Sum.inr "no", .int 0), (Sum.inr "if", .int 2), (Sum.inr "all", .int 1)]
theorem cntG_no {s : Str} (h : s ∈ (["not", "If", "", "ab", "1", " ", "(", "all a"] : List Str)) : getG cntG (Sum.inr s) = none := by
  simp only [List.mem_cons, List.not_mem_nil, or_false] at h
  rcases h with rfl | rfl | rfl | rfl | rfl | rfl | rfl | rfl <;> decide +kernel
theorem cntG_yes (f : Fm) : getG cntG (Sum.inr f.kind) = some (.int ((partsD f).length : Nat)) := by
  cases f <;> rfl
theorem take_cut02 (w : Str) (its : List (D × Str)) : cutD ((badIx w 0 its).map fun q => natD q.1) none (some 1) = dueL ((badIx w 0 its).head?.map fun q => ([natD q.1], q.2)) := by
  match badIx w 0 its with
  | [] => rfl
  | q :: t =>
    rw [List.map_cons, show cutD (natD q.1 :: t.map fun q => natD q.1) none (some 1) = [natD q.1] from by unfold cutD HT.sIx; simp]
    rfl
theorem badIx_len (w : Str) : ∀ (l : List (D × Str)) (i : Nat), (badIx w i l).length ≤ l.length
  | [], _ => Nat.le_refl _
  | p :: l, i => by
    have h := badIx_len w l (i + 1)
    show (if p.2 = w then badIx w (i + 1) l else (i, p.1) :: badIx w (i + 1) l).length ≤ l.length + 1
    split
    · omega
    · rw [List.length_cons]
      omega
theorem badIx_mem {w : Str} : ∀ {l : List (D × Str)} {i : Nat} {q : Nat × D}, q ∈ badIx w i l → ∃ j p, q.1 = i + j ∧ l[j]? = some p ∧ q.2 = p.1
  | [], _, _, h => nomatch h
  | p :: l, i, q, h => by
    have h : q ∈ (if p.2 = w then badIx w (i + 1) l else (i, p.1) :: badIx w (i + 1) l) := h
    have go : q ∈ badIx w (i + 1) l → ∃ j p', q.1 = i + j ∧ (p :: l)[j]? = some p' ∧ q.2 = p'.1 := fun h => by
      obtain ⟨j, p', e1, e2, e3⟩ := badIx_mem h
      exact ⟨j + 1, p', by omega, by simpa using e2, e3⟩
    split at h
    · exact go h
    · rcases List.mem_cons.mp h with rfl | h
      · exact ⟨0, p, rfl, rfl, rfl⟩
      · exact go h
theorem outF_cases {kd : D} {its : List (D × Str)} {l : List D} {z : D} (h : outF kd its = some (l, z)) : (l = [.str "kind"] ∧ z = kd) ∨ (l = [.str "parts"] ∧ z = .tup (its.map (·.1))) ∨ ∃ i p, l = [natD i] ∧ its[i]? = some p ∧ z = p.1 := by
  unfold outF at h
  split at h
  · rename_i s
    split at h
    · obtain ⟨rfl, rfl⟩ := Prod.mk.inj (Option.some.inj h)
      exact .inl ⟨rfl, rfl⟩
    · split at h
      · obtain ⟨q, hq, e⟩ := Option.map_eq_some_iff.mp h
        obtain ⟨rfl, rfl⟩ := Prod.mk.inj e
        obtain ⟨j, p, e1, e2, e3⟩ := badIx_mem (List.mem_of_mem_head? hq)
        exact .inr (.inr ⟨j, p, by rw [e1, Nat.zero_add], e2, e3⟩)
      · obtain ⟨rfl, rfl⟩ := Prod.mk.inj (Option.some.inj h)
        exact .inr (.inl ⟨rfl, rfl⟩)
  · obtain ⟨rfl, rfl⟩ := Prod.mk.inj (Option.some.inj h)
    exact .inl ⟨rfl, rfl⟩
section
variable {T : Kx} {G : Gm} {W : Om} {tr : TA} {R : D → Om → Prop} {W0 : WX} {ex : EX}
theorem evx_mkF02 (h : EvA FK T tr G W fun ds W1 => ∃ (kd : D) (its : List (D × Str)), ds = kd :: its.map (·.1) ∧ Kd02 kd ∧ itsOk its ∧
      (∀ f : Fm, outF kd its = none → kd = .str f.kind → its.map (·.1) = partsD f → f.okF → R (.fm f) W1) ∧ ∀ l z, outF kd its = some (l, z) → ∀ e x, ex 11 e G ([(e, .xd ["value"] [z]), (x, .ins 0 [] [])] ++ W1)) :
    EvX FK T W0 (tMakS (T.cl 0) (spX FK T (starSX 2 S_initX02)) (WE W0) tr) G W R ex :=
  evx_fz (evx_mk (fun C H O σ w Q q => h C H O σ w Q fun ds W1 H1 O1 vs ⟨kd, its, e, hk, hi, h1, h2⟩ n k => q ds W1 H1 O1 vs (fun x hx => by
    subst e
    have hl : (its.map (·.1)).length ≤ 3 := by rw [List.length_map]; exact hi.1
    refine ⟨[(x, .ins 0 [] [])], W1, List.Perm.refl _, by simp, ?_, x, kd, its, rfl, rfl, hk, hi, fun f g1 g2 g3 g4 al ha => ⟨rfl, x, _, W1, .fm f, rfl, List.Perm.refl _, .fm f al ha, h1 f g1 g2 g3 g4⟩, fun l z g e => h2 l z g e x⟩
    simp only [List.length_cons]
    omega) n k))
end
end N
set_option Elab.async false
set_option linter.all false
set_option maxRecDepth 100000
set_option maxHeartbeats 1000000
namespace N
open PySem PySem.Spec PyProof.Rows L2
def rEqV (K : PySem.W.Frag) (C : Addr) (sp : Sp) (E : XK) : R2 := fun x y H Q => ∃ a dx fs t, x = .ref a ∧ H a = some (.ins C dx fs) ∧ TyX K H y t ∧ PySem.W.notFirst K C t = true ∧ sp [x, y] H (fun v H' => (∃ b, v = .bl b) ∧ Q v H') E
theorem op_eqV {X : Cx} {CX : CXT} {k : Nat} {f C : Addr} {fd : FuncData} {ps : List Str} {sp : Sp} {E : XK} (F : FnOk X.prog X.w X.K X.mg X.base CX k f fd ps sp) (hr : Room k X.A) (o : Own2 X.K C "__eq__" f) (hb : Binds X.K fd ps []) (hx : Passes CX X E) : OpR X (compareOp .Eq) (rEqV X.K C sp E) := by
  intro pins s σ H x y v u Q I rx ry hq
  obtain ⟨a, dx, fs, t, rfl, ha, ht, hn, q⟩ := hq
  cases rx
  obtain ⟨od, J⟩ := inst_of I ha
  obtain ⟨m, hF⟩ := I.fr
  obtain ⟨P, kx, hP, _⟩ := kit_of I ry ht
  show wpAny _ _ (richCompare .Eq (.ref a) u) _ _ _
  refine PySem.W.cmp_K (op := .Eq) (tb := t) hr.units0 hF I.ok.mod.kin J (kx.ty _ _ I.kIn hP) hn o.at_ o.fn ?_
  refine wpAny_mono (run_fn (us := [.ref a, u]) (vs := [.ref a, y]) F hr hb .nil hx I (.cons rfl (.cons ry .nil)) (by exact q)) (fun w s' z => ?_) fun _ _ x => x
  obtain ⟨z', H', I', rz, ⟨b, rfl⟩, qz⟩ := z
  exact SlX.cmpback rz ⟨.bl b, H', I', rz, qz⟩
theorem op_eqv {X : Cx} {k j : Nat} {C : Addr} {sp : Sp} (o : Opn X.prog X.w X.K X.mg X.base k C "__eq__" sp) (hr : Room j X.A) (hk : k ≤ j) : OpR X (compareOp .Eq) (rEqV X.K C sp E0) := by
  obtain ⟨f, fd, ps, o2, h, b⟩ := o.ex
  exact op_eqV h (hr.mono hk) o2 b pass0
def rNeV (K : PySem.W.Frag) (C : Addr) (sp : Sp) (E : XK) : R2 := fun x y H Q => ∃ a dx fs t, x = .ref a ∧ H a = some (.ins C dx fs) ∧ TyX K H y t ∧ PySem.W.notFirst K C t = true ∧ sp [x, y] H (fun v H' => ∃ b, v = .bl b ∧ Q (.bl (!b)) H') E
theorem op_neV {X : Cx} {CX : CXT} {k : Nat} {f C : Addr} {fd : FuncData} {ps : List Str} {sp : Sp} {E : XK} (F : FnOk X.prog X.w X.K X.mg X.base CX k f fd ps sp) (hr : Room (k + 1) X.A) (o : Own2 X.K C "__eq__" f) (ne : NeC X.K C) (hb : Binds X.K fd ps []) (hx : Passes CX X E) : OpR X (compareOp .NotEq) (rNeV X.K C sp E) := by
  intro pins s σ H x y v u Q I rx ry hq
  obtain ⟨a, dx, fs, t, rfl, ha, ht, hn, q⟩ := hq
  cases rx
  obtain ⟨od, J⟩ := inst_of I ha
  obtain ⟨P, kx, hP, _⟩ := kit_of I ry ht
  show wpAny _ _ (richCompare .NotEq (.ref a) u) _ _ _
  refine cmp_ne (tb := t) hr.in1.units0 I.kIn J (kx.ty _ _ I.kIn hP) hn ne.ne o.at_ o.fn ne.ob ?_
  refine thn (run_at F hr.in1 rfl hb hx I (vs := [V.ref a, y]) (.cons rfl (.cons ry .nil)) q) fun v s' h => ?_
  obtain ⟨z, H', I', rz, b, rfl, qz⟩ := h
  cases rz
  exact ⟨b, rfl, .bl (!b), H', I', rfl, qz⟩
theorem op_nev {X : Cx} {k j : Nat} {C : Addr} {sp : Sp} (o : Opn X.prog X.w X.K X.mg X.base k C "__eq__" sp) (y : NeC X.K C) (hr : Room j X.A) (hk : k + 1 ≤ j) : OpR X (compareOp .NotEq) (rNeV X.K C sp E0) := by
  obtain ⟨f, fd, ps, o2, h, b⟩ := o.ex
  exact op_neV h (hr.mono hk) o2 y b pass0
section
variable {F : FmKit} {T : Kx} {W : Om} {R : D → Om → Prop} {S : FS} {c : Nat}
theorem bo_eqV {d e : D} {ns : List Str} {l : List D} {t : Value} (i1 : Inst F W d c ns l) (ty : TyD F T W e t) (hn : PySem.W.notFirst T.K (T.cl c) t = true) (h : Hand S [d, e] W fun d' W' => (∃ b, d' = .bl b) ∧ R d' W') : Bo F T (rEqV T.K (T.cl c) (spN F T S) E0) d e W R := fun C H O di oc ow x y hx hy Q q => by
  obtain ⟨a, dx, fs, ex, ha, _⟩ := i1.at di ow hx
  refine ⟨a, dx, fs, t, ex, ha, ty C H O di ow y hy, hn, h.run di oc ow ⟨x, _, rfl, hx, .one hy⟩ fun d' W' H' O' v ⟨⟨z, e⟩, r⟩ n k => ?_⟩
  subst e
  exact ⟨⟨z, k⟩, q _ W' H' O' v r n k⟩
theorem bo_neV {d e : D} {ns : List Str} {l : List D} {t : Value} (i1 : Inst F W d c ns l) (ty : TyD F T W e t) (hn : PySem.W.notFirst T.K (T.cl c) t = true) (h : Hand S [d, e] W fun d' W' => ∃ b, d' = .bl b ∧ R (.bl (!b)) W') : Bo F T (rNeV T.K (T.cl c) (spN F T S) E0) d e W R := fun C H O di oc ow x y hx hy Q q => by
  obtain ⟨a, dx, fs, ex, ha, _⟩ := i1.at di ow hx
  refine ⟨a, dx, fs, t, ex, ha, ty C H O di ow y hy, hn, h.run di oc ow ⟨x, _, rfl, hx, .one hy⟩ fun d' W' H' O' v ⟨z, e, r⟩ n k => ?_⟩
  subst e
  exact ⟨z, k, q _ W' H' O' _ r n rfl⟩
end
end N
set_option Elab.async false
set_option linter.all false
set_option maxRecDepth 100000
set_option maxHeartbeats 2000000
namespace N
open PySem PySem.Spec PyProof.Rows L2
theorem shaped_1S {b : Str} (h : PyData.strOk b = true) : SeqAt.shaped (.list ([b].map .str)) = true := by
  unfold SeqAt.shaped
  simp [PyData.canLay0, PyData.canLayAll0, PyData.depth, PyData.depthAll, h]
theorem shaped_1I (i : Int) : SeqAt.shaped (.list ([i].map .int)) = true := by
  unfold SeqAt.shaped
  simp [PyData.canLay0, PyData.canLayAll0, PyData.depth, PyData.depthAll]
section
variable {F : FmKit} {T : Kx} {W : Om} {R : D → Om → Prop}
theorem bo_eq1S {a b : Str} (ha : PyData.strOk a = true) (hb : PyData.strOk b = true) (r : R (.bl (decide (a = b))) W) : Bo F T (rEqD T.K) (.lst [.str a]) (.lst [.str b]) W R := by
  refine bo_eqD (.inl (pd_lst (pdL_map D.str .str (fun _ => rfl) [a]))) (.inl (pd_lst (pdL_map D.str .str (fun _ => rfl) [b]))) (shaped_1S ha) (shaped_1S hb) ?_
  have e : PyData.eqv (.list ([a].map .str)) (.list ([b].map .str)) = decide (a = b) := by
    rw [Bool.eq_iff_iff]
    simp [PyData.eqv, PyData.eqvAll]
  rw [e]
  exact r
theorem bo_eq1I {i : Nat} {b : Str} (hb : PyData.strOk b = true) (r : R (.bl false) W) : Bo F T (rEqD T.K) (.lst [natD i]) (.lst [.str b]) W R := by
  refine bo_eqD (.inl (pd_lst (pdL_map D.int .int (fun _ => rfl) [((i : Nat) : Int)]))) (.inl (pd_lst (pdL_map D.str .str (fun _ => rfl) [b]))) (shaped_1I _) (shaped_1S hb) ?_
  have e : PyData.eqv (.list ([((i : Nat) : Int)].map .int)) (.list ([b].map .str)) = false := by
    simp [PyData.eqv, PyData.eqvAll]
  rw [e]
  exact r
end
theorem atI_nat02 {α : Type} {l : List α} {m : Nat} {x : α} (h : l[m]? = some x) : atI l ((m : Nat) : Int) = some x := by
  have hm := (List.getElem?_eq_some_iff.mp h).1
  unfold atI ixN
  rw [if_pos (by omega), if_pos (by omega)]
  exact h
end N
namespace N
open PySem PySem.Spec PyProof.Rows L2
theorem op_eqvK02 {X : Cx} {K : PySem.W.Frag} {k j : Nat} {C : Addr} {sp : Sp} (hK : X.K = K) (o : Opn X.prog X.w X.K X.mg X.base k C "__eq__" sp) (hr : Room j X.A) (hk : k ≤ j) : OpR X (compareOp .Eq) (rEqV K C sp E0) := hK ▸ op_eqv o hr hk
theorem op_nevK02 {X : Cx} {K : PySem.W.Frag} {k j : Nat} {C : Addr} {sp : Sp} (hK : X.K = K) (o : Opn X.prog X.w X.K X.mg X.base k C "__eq__" sp) (y : NeC X.K C) (hr : Room j X.A) (hk : k + 1 ≤ j) : OpR X (compareOp .NotEq) (rNeV K C sp E0) := hK ▸ op_nev o y hr hk
theorem drv_2b (b : Bool) : Drv (.lst [.bl b, .bl b]) (.list [.bool b, .bool b]) := drv_lst (.c (drv_bl b) (.c (drv_bl b) .n))
theorem shw_2b (b : Bool) : ShwQ (.list [.bool b, .bool b]) := by cases b <;> exact shw_small (by decide +kernel) (by decide +kernel) (by decide +kernel) (by decide +kernel)
theorem strOk_ltr : ∀ c : Fin 123, 65 ≤ c.val → PyData.strOk (sg c.val) = true := by decide +kernel
theorem bo_eqT1 {F : FmKit} {T : Kx} {W : Om} {R : D → Om → Prop} {c : Nat} (hc : ltr02 c) (r : R (.bl true) W) : Bo F T (rEqD T.K) (.tup [.str (sg c)]) (.tup [.str (sg c)]) W R := by
  have h := strOk_ltr ⟨c, by unfold ltr02 at hc; omega⟩ (by show 65 ≤ c; unfold ltr02 at hc; omega)
  have h : PyData.strOk (sg c) = true := h
  have sh : SeqAt.shaped (.tuple ([sg c].map .str)) = true := by
    unfold SeqAt.shaped
    simp [PyData.canLay0, PyData.canLayAll0, PyData.depth, PyData.depthAll, h]
  refine bo_eqD (.inl (pd_tup (pdL_map D.str .str (fun _ => rfl) [sg c]))) (.inl (pd_tup (pdL_map D.str .str (fun _ => rfl) [sg c]))) sh sh ?_
  have e : PyData.eqv (.tuple ([sg c].map .str)) (.tuple ([sg c].map .str)) = true := by
    simp [PyData.eqv, PyData.eqvAll]
  rw [e]
  exact r
theorem sw_mid02 {F : FmKit} {T : Kx} {G : Gm} {W : Om} {E : En} {ts tz : TS} (I : Gm → Om → Prop) (h : Sw F T ts G W { E with nx := I }) (k : ∀ G' W', I G' W' → Sw F T tz G' W' E) : Sw F T (tSeq ts tz) G W E :=
  sw_seq (h.imp k (fun _ _ h => h) (fun _ _ h => h) (fun _ _ h => h))
theorem cutD_pre02 (l : List D) (m : Nat) : cutD l none (some ((m : Nat) : Int)) = l.take m := by
  unfold cutD
  have e : HT.sIx l.length l.length (some ((m : Nat) : Int)) = min m l.length := HT.sIx_nat l.length l.length m
  rw [e, show HT.sIx l.length 0 none = 0 from rfl]
  rcases Nat.le_total m l.length with h | h
  · rw [Nat.min_eq_left h]; simp
  · rw [Nat.min_eq_right h, List.take_of_length_le h]; simp
theorem cutD_suf02 (l : List D) (m : Nat) : cutD l (some ((m : Nat) : Int)) none = l.drop m := by
  unfold cutD
  rw [show HT.sIx l.length 0 (some ((m : Nat) : Int)) = min m l.length from HT.sIx_nat l.length 0 m, show HT.sIx l.length l.length none = l.length from rfl]
  rw [List.take_of_length_le (by simp)]
  rcases Nat.le_total m l.length with h | h
  · rw [Nat.min_eq_left h]
  · rw [Nat.min_eq_right h, List.drop_length, List.drop_eq_nil_of_le h]
/-- how many formulas are taken -/
def manG : List (Key × D) := [(Sum.inr "if", .int 2), (Sum.inr "all", .int 1)]
theorem many02 {s : Str} (h : s ∈ kinds02) : ∃ m : Nat, m ≤ 2 ∧ (getG manG (Sum.inr s)).getD (.int 0) = natD m := by
  simp only [kinds02, List.mem_cons, List.not_mem_nil, or_false] at h
  rcases h with rfl | rfl | rfl | rfl | rfl | rfl | rfl | rfl | rfl | rfl | rfl | rfl
  · exact ⟨0, by decide, rfl⟩
  · exact ⟨0, by decide, rfl⟩
  · exact ⟨2, by decide, rfl⟩
  · exact ⟨1, by decide, rfl⟩
  all_goals exact ⟨0, by decide, rfl⟩
/-- rows of bools, beside themselves -/
theorem lay_rows02 : ∀ r : List (List Bool), PyData.canLayAll0 (r.map fun l => .list (l.map .bool)) = true
  | [] => rfl
  | l :: r => by
    rw [List.map_cons, PyData.canLayAll0, lay_rows02 r, PyData.canLay0, lay_bl01]
    rfl
theorem dep_rows02 : ∀ r : List (List Bool), PyData.depthAll (r.map fun l => .list (l.map .bool)) ≤ 1
  | [] => by simp [PyData.depthAll]
  | l :: r => by
    have h := dep_rows02 r
    rw [List.map_cons, PyData.depthAll, PyData.depth, dep_bl01]
    omega
theorem bo_neBB {F : FmKit} {T : Kx} {W : Om} {R : D → Om → Prop} (r : List (List Bool)) (h : R (.bl false) W) : Bo F T (rNeD T.K) (.lst (r.map fun l => .lst (l.map D.bl))) (.lst (r.map fun l => .lst (l.map D.bl))) W R := by
  have vp : Vp W (.lst (r.map fun l => .lst (l.map D.bl))) (.list (r.map fun l => .list (l.map .bool))) := .inl (pd_lst (pdL_map (fun l : List Bool => D.lst (l.map D.bl)) (fun l => PyData.list (l.map .bool)) (fun l => pd_lst (pdL_map D.bl .bool (fun _ => rfl) l)) r))
  have lay : (PyData.list (r.map fun l => PyData.list (l.map .bool))).canLay0 = true := by rw [PyData.canLay0, lay_rows02]
  have sh : SeqAt.shaped (.list (r.map fun l => .list (l.map .bool))) = true := by
    have hd := dep_rows02 r
    unfold SeqAt.shaped
    rw [lay, PyData.depth]
    simp
    omega
  refine bo_neD vp vp sh sh ?_
  rw [SeqAt.eqv_refl _ lay]
  exact h
/-- the type of an odd value -/
theorem od_ty {F : FmKit} {T : Kx} {W : Om} {d : D} {q : PyData} (h : Od d q) : ∃ t : String, t ∈ ["str", "int", "bool", "NoneType", "tuple", "list", "dict"] ∧ TyD F T W d (.type t) := by
  rcases h.tx with ⟨s, rfl, _⟩ | hn
  · exact ⟨"str", by decide, tyd_str⟩
  · cases hn with
    | non => exact ⟨"NoneType", by decide, tyd_non⟩
    | bl b => exact ⟨"bool", by decide, tyd_bl⟩
    | int i => exact ⟨"int", by decide, tyd_int⟩
    | tup l => exact ⟨"tuple", by decide, tyd_tup⟩
    | lst l => exact ⟨"list", by decide, tyd_lst⟩
    | dct ks l => exact ⟨"dict", by decide, tyd_dct⟩
theorem Od.tv {d : D} {q : PyData} (h : Od d q) : (∃ s : Str, d = .str s) ∨ notStr d := h.tx.imp (fun ⟨s, e, _⟩ => ⟨s, e⟩) id
/-- the signs that are asked last -/
theorem signs02_ok : ∀ d ∈ ((lets ("[]^_`{@aZzA" : Str)).map fun c => D.str (sg c)) ++ [D.str "\\"], (∃ c, ltr02 c ∧ d = .str (sg c)) ∨ ∃ q, Od d q := by
  have od : ∀ s : Str, (PyData.str s).leavesShort 400 = true → (PyData.str s).weight ≤ 1000 → s.length ≤ 10 → isLet s = false → ∃ q, Od (.str s) q := fun s h1 h2 h3 h4 => ⟨.str s, drv_str s, shw_small rfl h1 h2 (Nat.zero_le _), .inl ⟨s, rfl, h3, h4⟩⟩
  intro d hd
  rcases List.mem_append.mp hd with hd | hd
  · obtain ⟨c, hc, rfl⟩ := List.mem_map.mp hd
    have hc : c ∈ [91, 93, 94, 95, 96, 123, 64, 97, 90, 122, 65] := hc
    simp only [List.mem_cons, List.not_mem_nil, or_false] at hc
    rcases hc with rfl | rfl | rfl | rfl | rfl | rfl | rfl | rfl | rfl | rfl | rfl
    · exact .inr (od _ (by decide +kernel) (by decide +kernel) (by decide +kernel) (by decide +kernel))
    · exact .inr (od _ (by decide +kernel) (by decide +kernel) (by decide +kernel) (by decide +kernel))
    · exact .inr (od _ (by decide +kernel) (by decide +kernel) (by decide +kernel) (by decide +kernel))
    · exact .inr (od _ (by decide +kernel) (by decide +kernel) (by decide +kernel) (by decide +kernel))
    · exact .inr (od _ (by decide +kernel) (by decide +kernel) (by decide +kernel) (by decide +kernel))
    · exact .inr (od _ (by decide +kernel) (by decide +kernel) (by decide +kernel) (by decide +kernel))
    · exact .inr (od _ (by decide +kernel) (by decide +kernel) (by decide +kernel) (by decide +kernel))
    · exact .inl ⟨97, by unfold ltr02; omega, rfl⟩
    · exact .inl ⟨90, by unfold ltr02; omega, rfl⟩
    · exact .inl ⟨122, by unfold ltr02; omega, rfl⟩
    · exact .inl ⟨65, by unfold ltr02; omega, rfl⟩
  · rw [List.mem_singleton.mp hd]
    exact .inr (od _ (by decide +kernel) (by decide +kernel) (by decide +kernel) (by decide +kernel))
end N
set_option Elab.async false
set_option linter.all false
set_option maxRecDepth 100000
set_option maxHeartbeats 2000000
namespace N
open PySem PySem.Spec PyProof.Rows L2
theorem isVal_ok {K : Fg} {C : Addr} {m : Str} {u : Value} (h : isVal K C m u = true) : PySem.W.findCls K (.ref C) (.type "type") m = some (.val u) := by
  unfold isVal at h
  cases e : PySem.W.findCls K (.ref C) (.type "type") m with
  | none => rw [e] at h; cases h
  | some z =>
    rw [e] at h
    cases z with
    | val v =>
      have h : decide (v = u) = true := h
      rw [of_decide_eq_true h]
    | get g a o t => cases h
theorem isStrG_ok {K : Fg} {x z : Str} (h : isStrG K x z = true) : ∃ t, PySem.W.nsIn K mainGlobals x = some (some (.str z t)) := by
  unfold isStrG at h
  split at h
  · rename_i y t e
    have := of_decide_eq_true h
    subst this
    exact ⟨t, e⟩
  · cases h
theorem isIntIn_ok {K : Fg} {d : Addr} {x : Str} {i : Int} (h : isIntIn K d x i = true) : ∃ t, PySem.W.nsIn K d x = some (some (.int i t)) := by
  unfold isIntIn at h
  split at h
  · rename_i y t e
    have := of_decide_eq_true h
    subst this
    exact ⟨t, e⟩
  · cases h
theorem isExc_ok {K : Fg} {C CW : Addr} (h : isExc K C CW = true) : ∃ nm q N bs sn sub ab col dd k0 k1 k2 k3 k5, K.lookup C = some (excClassObj nm q C N bs [.ref CW, .type "Exception", .type "BaseException", .type "object"] true sn sub ab col dd k0 k1 k2 k3 k5 "Exception.__new__") := by
  unfold isExc at h
  split at h
  · rename_i c dd cd sl e
    obtain ⟨c1, c2, c3, c4, c5, c6, c7, c8, c9, c10, c11⟩ := cd
    obtain ⟨sl⟩ := sl
    simp only [Bool.and_eq_true, decide_eq_true_eq, Bool.not_eq_true'] at h
    obtain ⟨h1, h2, h3, h4, h5⟩ := h
    subst h1 h2 h3 h4
    split at h5
    · rename_i k0 k1 k2 k3 v k5 es
      have h5 := of_decide_eq_true h5
      subst h5
      exact ⟨_, _, _, _, _, _, _, _, _, _, _, _, _, _, e⟩
    · cases h5
  · cases h
theorem keysLit {P : Params} : ∀ {l : List DictEntry} {ks : List Str}, (l.all fun e => match e.key with
    | .str _ _ => true
    | _ => false) = true → (l.map fun e => match e.key with
    | .str x _ => (x, e.hash)
    | _ => (("" : Str), 0)) = ks.map (fun k => (k, PyData.keyHash P k)) → PySem.W.KeysLit P l
  | [], _, _, _ => trivial
  | e :: l, [], _, h => by cases h
  | e :: l, k :: ks, ha, h => by
    rw [List.all_cons, Bool.and_eq_true] at ha
    rw [List.map_cons, List.map_cons] at h
    obtain ⟨h1, h2⟩ := List.cons.inj h
    refine ⟨?_, keysLit ha.2 h2⟩
    have ha1 := ha.1
    split at ha1
    · rename_i x t ek
      rw [ek] at h1
      have h1 : (x, e.hash) = (k, PyData.keyHash P k) := h1
      obtain ⟨h3, h4⟩ := Prod.mk.inj h1
      subst h3
      exact ⟨x, t, ek, h4⟩
    · cases ha1
theorem isDic_ok {K : Fg} {d : Addr} {P : Params} {ks : List Str} (h : isDic K d = true) (hk : keysY K d = ks.map fun k => (k, PyData.keyHash P k)) : ∃ es n, K.lookup d = some ⟨.type "dict", none, .dict es n, #[]⟩ ∧ PySem.W.KeysLit P es.toList := by
  unfold isDic at h
  unfold keysY at hk
  split at h
  · rename_i c es n sl e
    rw [e] at hk
    simp only [Bool.and_eq_true, decide_eq_true_eq] at h
    obtain ⟨h1, h2, h3⟩ := h
    subst h1
    obtain ⟨sl⟩ := sl
    have h2 : sl = [] := List.isEmpty_iff.mp h2
    subst h2
    exact ⟨es, n, e, keysLit h3 hk⟩
  · cases h
theorem isNon_ok {v : Value} (h : isNon v = true) : v = .none := by
  cases v <;> first | rfl | cases h
theorem DefT.get {K : Fg} {d : DefT} (e : fnY K (d.at_ K) = d.val) (c : d.ok K = true) : ∃ oc od osl dV kV doc pm an cdv ct, K.lookup (d.at_ K) = some ⟨oc, od, .func (PySem.W.fnOf d.name d.qual (defArgs d.st) (defBody d.st) (defScope d.st) dV kV doc pm an cdv ct), osl⟩ ∧ PySem.W.codeIn K cdv d.qual = true ∧
    (match d.dn with
    | false => isNon dV
    | true => nonSeq K dV) = true ∧ PySem.W.keepIn K (.ref (d.at_ K)) = true := by
  obtain ⟨kp, c2⟩ := Bool.and_eq_true_iff.mp c
  unfold fnY at e
  cases q : K.lookup (d.at_ K) with
  | none =>
    rw [q] at c2
    cases c2
  | some o =>
    obtain ⟨oc, od, dt, osl⟩ := o
    rw [q] at c2 e
    cases dt with
    | func fd =>
      obtain ⟨n1, n2, n3, n4, n5, n6, n7, n8, n9, n10, n11, n12, n13, n14, n15⟩ := fd
      have e2 : (some (n1, n2, n3, n4, n5, n6, n7, n15) : He.FnW) = some (d.name, d.qual, defArgs d.st, .stmts (defBody d.st), defScope d.st, mainGlobals, [], builtinsNs) := e
      simp only [Option.some.injEq, Prod.mk.injEq] at e2
      obtain ⟨h1, h2, h3, h4, h5, h6, h7, h8⟩ := e2
      obtain ⟨c3, c4⟩ := Bool.and_eq_true_iff.mp (show (PySem.W.codeIn K n13 d.qual && (match d.dn with
    | false => isNon n8
    | true => nonSeq K n8)) = true from c2)
      subst h1 h2 h3 h4 h5 h6 h7 h8
      exact ⟨oc, od, osl, n8, n9, n10, n11, n12, n13, n14, rfl, c3, c4, kp⟩
    | _ => cases c2
theorem DefT.fun_ {K : Fg} {d : DefT} (e : fnY K (d.at_ K) = d.val) (c : d.ok K = true) (hd : d.dn = false) : ∃ fd, Fun K d.name d.qual d.st (d.at_ K) fd := by
  obtain ⟨oc, od, osl, dV, kV, doc, pm, an, cdv, ct, l, cc, dn, kp⟩ := d.get e c
  rw [hd] at dn
  obtain rfl := isNon_ok dn
  exact ⟨_, fun_mk l cc kp⟩
section
variable {ts : List (Fg → Bool)} {fn : List DefT} {dk : List DicT} {w : World} {K : Fg}
theorem SaysT.test (c : SaysT ts fn dk w K) (i : Nat) {t : Fg → Bool} (h : ts[i]? = some t := by rfl) : t K = true := by
  have c1 := (Bool.and_eq_true_iff.mp (show ((ts.all fun t => t K) && (fn.all fun d => d.ok K)) = true from congrArg (fun z : AlT => z.1) c)).1
  exact List.all_eq_true.mp c1 t (List.mem_of_getElem? h)
theorem SaysT.def_ (c : SaysT ts fn dk w K) (i : Nat) {d : DefT} (h : fn[i]? = some d) : fnY K (d.at_ K) = d.val ∧ d.ok K = true := by
  have c2 := (Bool.and_eq_true_iff.mp (show ((ts.all fun t => t K) && (fn.all fun d => d.ok K)) = true from congrArg (fun z : AlT => z.1) c)).2
  have e : fn.map (fun d => fnY K (d.at_ K)) = fn.map DefT.val := congrArg (fun z : AlT => z.2.1) c
  have e2 : (fn.map fun d => fnY K (d.at_ K))[i]? = (fn.map DefT.val)[i]? := by rw [e]
  rw [List.getElem?_map, List.getElem?_map, h] at e2
  exact ⟨Option.some.inj e2, List.all_eq_true.mp c2 d (List.mem_of_getElem? h)⟩
theorem SaysT.fun_ (c : SaysT ts fn dk w K) (i : Nat) {d : DefT} (h : fn[i]? = some d := by rfl) (hd : d.dn = false := by rfl) : ∃ fd, Fun K d.name d.qual d.st (d.at_ K) fd := DefT.fun_ (c.def_ i h).1 (c.def_ i h).2 hd
theorem SaysT.dic (c : SaysT ts fn dk w K) (i : Nat) {d : DicT} (h : dk[i]? = some d := by rfl) (hs : isDic K (d.at_ K) = true) : ∃ es n, K.lookup (d.at_ K) = some ⟨.type "dict", none, .dict es n, #[]⟩ ∧ PySem.W.KeysLit w.params es.toList := by
  have e : dk.map (fun d => keysY K (d.at_ K)) = dk.map fun d => d.keys.map fun k => (k, PyData.keyHash w.params k) := congrArg (fun z : AlT => z.2.2) c
  have e2 : (dk.map fun d => keysY K (d.at_ K))[i]? = (dk.map fun d => d.keys.map fun k => (k, PyData.keyHash w.params k))[i]? := by rw [e]
  rw [List.getElem?_map, List.getElem?_map, h] at e2
  exact isDic_ok hs (Option.some.inj e2)
end
theorem walkT {l : PySem.W.OpenLaw} {n k : Nat} {q : Program} {loose : List Str} {XP : (Str → Option Value) → Heap → Prop} {YP : World → Heap → Prop} {Sy : World → Fg → Prop} {d : DefRec} {sp : Fg → Sp}
    (hn : l.most = some n) (hn2 : n ≤ sizeLine) (hdf : d.params.defaults = []) (hr : Room k callerA) (hY : ∀ (w : World) (h : Heap), YP w h → ∃ K : Fg, K.In h ∧ Sy w K)
    (Fn : ∀ (w : World) (mg : Str → Option Value) (fa : Addr) (h : Heap) (K : Fg), K.In h → Sy w K → h.Ns mainGlobals mg → mg d.name = some (.ref fa) → ∀ base : Heap, K.In base → base.Ns mainGlobals mg → FnG l.prog w K mg base k fa (sp K))
    (hsp : ∀ (K : Fg) (H : Hp) (a : Addr) (ns : List Int), ns.length ≤ n → Only H → SqL K H a (ns.map V.int) → sp K [.ref a] H (fun v _ => v = .bl true) E0) :
    PySem.W.WalkO q loose XP YP l.row.toRowW d [] (fun f vs => PySem.call f vs) := by
  refine Att.attach_call hn hdf fun w s0 s1 mg mb fa o pm cd doc a vs ns G Y ho hd hcd hmg hobj hints hlen hg => ?_
  obtain ⟨K, KX, sy⟩ := hY w _ Y
  exact lawG KX G.T.g G.T.b G.T.builtins G.T.nolimit hg hobj hints (Nat.le_trans hlen hn2) hr (Fn w mg fa _ K KX sy G.T.g hmg) fun H hO hS => hsp K H a ns hlen hO hS
end N
set_option Elab.async false
set_option linter.all false
set_option maxRecDepth 100000
namespace N
open PySem PySem.Spec PyProof.Rows L2
open C8 (Cal Met Mak InsC pe_c pe_mt pe_mt0 pe_mk)
set_option maxHeartbeats 4000000
local macro_rules | `(tactic| walk_at "vl") => `(tactic| first | exact .inl (.inl rfl) | exact .inr ⟨_, rfl, List.mem_cons_self⟩ | exact .inr ⟨_, rfl, List.mem_cons_of_mem _ List.mem_cons_self⟩ | exact .inr ⟨_, rfl, List.mem_cons_of_mem _ (List.mem_cons_of_mem _ List.mem_cons_self)⟩ | exact .inr ⟨_, rfl, List.mem_cons_of_mem _ (List.mem_cons_of_mem _ (List.mem_cons_of_mem _ List.mem_cons_self))⟩ | exact .inl (.inr ⟨_, rfl, rfl⟩))
local macro_rules | `(tactic| walk_at "vt") => `(tactic| first | exact .inl rfl | exact .inr ⟨_, rfl, List.mem_cons_self⟩ | exact .inr ⟨_, rfl, List.mem_cons_of_mem _ List.mem_cons_self⟩ | exact .inr ⟨_, rfl, List.mem_cons_of_mem _ (List.mem_cons_of_mem _ List.mem_cons_self)⟩ | exact .inr ⟨_, rfl, List.mem_cons_of_mem _ (List.mem_cons_of_mem _ (List.mem_cons_of_mem _ List.mem_cons_self))⟩)
local macro_rules | `(tactic| walk_at "vd") => `(tactic| first | exact .inl rfl | exact .inr ⟨_, rfl, List.mem_cons_self⟩ | exact .inr ⟨_, rfl, List.mem_cons_of_mem _ List.mem_cons_self⟩ | exact .inr ⟨_, rfl, List.mem_cons_of_mem _ (List.mem_cons_of_mem _ List.mem_cons_self)⟩ | exact .inr ⟨_, rfl, List.mem_cons_of_mem _ (List.mem_cons_of_mem _ (List.mem_cons_of_mem _ List.mem_cons_self))⟩)
local macro_rules | `(tactic| walk_at "gg") => `(tactic| first | exact getG_hd _ _ _ | (refine getG_tl (by decide +kernel) ?_; walk_at "gg"))
local macro_rules | `(tactic| walk_at "vs") => `(tactic| first | exact .inr rfl | (refine .inl ?_; walk_at "vl"))
local macro_rules | `(tactic| walk_at "nc") => `(tactic| first | omega | (unfold CMul; omega) | (unfold CDiv; omega) | (unfold CPow; decide) | (show (0 : Int) < _; omega))
local macro_rules | `(tactic| walk_at "sx") => `(tactic| first
  | with_reducible refine swx_seq ?_ | with_reducible refine swx_set ?_ | with_reducible refine swx_if ?_ | with_reducible refine swx_asg ?_ | with_reducible refine swx_ret ?_ | with_reducible refine swx_drop ?_ | ((with_reducible refine' swx_raise ?h ?hc); (case hc => exact rfl)) | with_reducible refine swx_next ?_ | with_reducible refine swx_brk ?_ | with_reducible refine swx_cont ?_ | with_reducible refine swx_retN ?_ | with_reducible refine swx_par ?_ | with_reducible refine swx_fld ?_
  | with_reducible refine evx_call ?_ | with_reducible refine evx_cm ?_ | with_reducible refine evx_cmk ?_ | with_reducible refine evx_mkF02 ?_ | with_reducible refine evx_mk ?_ | with_reducible refine evx_mkk ?_ | with_reducible refine evx_of ?_)
local macro_rules | `(tactic| walk_at "s1") => `(tactic| first
  | with_reducible refine sw_seq ?_ | with_reducible refine sw_set ?_ | (with_reducible refine' ev_var ?h ?_); (case h => rfl) | with_reducible refine ev_c ?_ | with_reducible refine ev_op ?_
  | with_reducible refine bo_I0 ?_ | with_reducible refine ev_tup ?_ | with_reducible refine ev_lstF ?_ | with_reducible refine ev_cb ?_ | with_reducible refine ea_cons ?_ | with_reducible refine ea_nil ?_
  | with_reducible refine bo_eqI ?_ | with_reducible refine bo_neI ?_ | with_reducible refine bo_eqS ?_ | with_reducible refine bo_neS ?_ | with_reducible refine bo_eqB ?_ | with_reducible refine bo_neB ?_
  | with_reducible refine isi_str ?_ | (with_reducible refine' ca_intBt ?h1 ?_); (case h1 => decide +kernel) | (with_reducible refine' ca_intBf ?h1 ?_); (case h1 => decide +kernel) | with_reducible refine ca_intB ?_ | with_reducible refine ca_int ?_ | with_reducible refine ca_max2 ?_ | with_reducible refine ca_min2 ?_
  | with_reducible refine sw_if ?_ | with_reducible refine sw_ret ?_ | with_reducible refine sw_drop ?_ | with_reducible refine sw_setL ?_ | with_reducible refine sw_next ?_ | with_reducible refine sw_par ?_ | with_reducible refine ev_neg ?_ | with_reducible refine ev_mkF ?_ | with_reducible refine ev_inv ?_ | with_reducible refine ev_prpF ?_ | with_reducible refine ta_fld ?_ | with_reducible refine ta_name ?_ | (with_reducible refine' ta_tup ?hl ?_); (case hl => rfl) | with_reducible refine tas_cons ?_ | with_reducible refine tas_nil ?_
  | with_reducible refine et_ifE ?_ | with_reducible refine ev_orV ?_ | with_reducible refine ev_andV ?_ | with_reducible refine ev_notV ?_ | with_reducible refine et_or ?_ | with_reducible refine et_and ?_ | with_reducible refine sw_asgA ?_ | with_reducible refine sw_asg2 ?_ | with_reducible refine sw_asg3 ?_ | with_reducible refine sw_fld ?_ | with_reducible refine et_test ?_ | with_reducible refine et_B ?_ | with_reducible refine ⟨_, rfl, ?_⟩ | with_reducible refine ⟨_, _, rfl, ?_⟩ | with_reducible refine et_not ?_ | with_reducible refine ev_if ?_
  | (with_reducible refine' bo_ixL ?h1 ?h2 ?_); (case h1 => walk_at "vl"); (case h2 => rfl) | (with_reducible refine' bo_ixT ?h2 ?_); (case h2 => rfl) | with_reducible refine ev_call ?_ | ((with_reducible refine' ev_fwF ?hz ?hy ?_); (case hz => assumption); (case hy => assumption)) | (with_reducible refine' ev_fmF ?hz ?_; case hz => assumption) | with_reducible refine ev_fld ?_
  | with_reducible refine .inr ⟨_, _, rfl, FldW.below _, ?_⟩ | with_reducible refine .inr ⟨_, _, rfl, FldW.atoms _, ?_⟩ | with_reducible refine .inr ⟨_, _, rfl, FldW.bens _, ?_⟩ | with_reducible refine .inr ⟨_, _, rfl, FldW.hgts _, ?_⟩
  | with_reducible refine .inl ⟨_, _, rfl, FldF.kind _, ?_⟩ | with_reducible refine .inl ⟨_, _, rfl, FldF.parts _, ?_⟩ | with_reducible refine .inl ⟨_, _, rfl, FldF.many _, ?_⟩ | with_reducible refine .inl ⟨_, _, rfl, FldF.deep _, ?_⟩ | with_reducible refine .inl ⟨_, _, rfl, FldF.atoms _, ?_⟩ | with_reducible refine .inl ⟨_, _, rfl, FldF.bare _, ?_⟩ | with_reducible refine .inl ⟨_, _, rfl, FldF.spell _, ?_⟩ | with_reducible refine .inl ⟨_, _, rfl, FldF.alls _, ?_⟩
  | with_reducible refine ev_meth ?_ | ((with_reducible refine' ⟨_, _, inst_wb _, ?hm, ?_⟩); (case hm => decide +kernel)) | ((with_reducible refine' ⟨_, _, Inst.fm _, ?hm, ?_⟩); (case hm => decide +kernel))
  | with_reducible refine ⟨_, _, rfl, FldF.kind _, ?_⟩ | with_reducible refine ⟨_, _, rfl, FldF.parts _, ?_⟩ | with_reducible refine ⟨_, _, rfl, FldF.many _, ?_⟩ | with_reducible refine ⟨_, _, rfl, FldF.deep _, ?_⟩ | with_reducible refine ⟨_, _, rfl, FldF.atoms _, ?_⟩ | with_reducible refine ⟨_, _, rfl, FldF.bare _, ?_⟩ | with_reducible refine ⟨_, _, rfl, FldF.spell _, ?_⟩ | with_reducible refine ⟨_, _, rfl, FldF.alls _, ?_⟩
  | ((with_reducible refine' ⟨len_ok ?hl, ?_⟩); (case hl => exact Nat.le_of_ble_eq_true rfl))
  | (with_reducible refine' bo_I ?h1 ?_); (case h1 => walk_at "nc")
  | with_reducible refine ev_sl ?_ | with_reducible refine eo_none ?_ | with_reducible refine eo_some ?_ | (with_reducible refine' ca_slF ?h1 ?_); (case h1 => walk_at "vl") | with_reducible refine ev_revF ?_ | with_reducible refine ev_dget ?_ | with_reducible refine sw_dput ?_ | with_reducible refine ev_dispF ?_ | with_reducible refine eps_cons ?_ | with_reducible refine eps_nil ?_ | with_reducible refine exk_str ?_ | with_reducible refine exk_int ?_ | (with_reducible refine' dg_str ?h1 ?h2 ?_); (case h1 => walk_at "vd"); (case h2 => walk_at "gg")
  | with_reducible refine unr_cons ?_ | with_reducible refine unr_nil ?_ | with_reducible refine swu_cons ?_ | with_reducible refine swu_nil ?_ | with_reducible refine et_yes ?_ | with_reducible refine tg_name ?_ | (with_reducible refine' tw_name ?h1 ?_); (case h1 => simp) | ((with_reducible refine' ⟨acc_ok ?h1, ?_⟩); (case h1 => exact Nat.le_of_ble_eq_true rfl)) | with_reducible refine ei_tup ?_ | with_reducible refine ei_list ?_ | with_reducible refine ei_rng1 ?_
  | with_reducible refine ca_strF ?_ | with_reducible refine ca_lenF ?_ | with_reducible refine isi_tup ?_ | with_reducible refine isi_int ?_ | with_reducible refine isi_intB ?_ | with_reducible refine et_chain ?_ | with_reducible refine ev_chain ?_ | (with_reducible refine' isi_fm ?hz ?_; case hz => assumption)
  | (with_reducible refine' ca_len ?h1 ?_); (case h1 => walk_at "vs")
  | (with_reducible refine' if_so ?h1 ?_); (case h1 => first | rfl | decide +kernel) | (with_reducible refine' if_not ?h1 ?_); (case h1 => first | rfl | decide +kernel))
local macro_rules | `(tactic| walk_at "st") => `(tactic| repeat first | walk_at "s1" | walk_at "sx")
section
def top (i : Nat) : Stmt := PySem.Challenge.pw_allbeneath_k02_formulas_of_any_parts.main.body.getD i (.Pass ⟨0, 0, 0, 0⟩)
/-- what the module has written -/
structure ZZ (K : PySem.W.Frag) (w : World) (mg : Str → Option Value) (cl : Nat → Addr) where
  g_LETTERS : ∃ u, mg "LETTERS" = some u ∧ RelV (.str "ABCDEFGHIJKLMNOPQRSTUVWXYZabcdefghijklmnopqrstuvwxyz") u
  g_ATOM : ∃ u, mg "ATOM" = some u ∧ RelV (.str "atom") u
  g_NO : ∃ u, mg "NO" = some u ∧ RelV (.str "no") u
  g_IF : ∃ u, mg "IF" = some u ∧ RelV (.str "if") u
  g_ALL : ∃ u, mg "ALL" = some u ∧ RelV (.str "all") u
  d_PARTS_OF : Addr
  e_PARTS_OF : Array DictEntry
  n_PARTS_OF : Nat
  g_PARTS_OF : mg "PARTS_OF" = some (.ref d_PARTS_OF)
  t_PARTS_OF : KDict K w d_PARTS_OF e_PARTS_OF n_PARTS_OF
  k_PARTS_OF_atom : ∃ t, PySem.W.nsIn K d_PARTS_OF "atom" = some (some (.int 1 t))
  k_PARTS_OF_no : ∃ t, PySem.W.nsIn K d_PARTS_OF "no" = some (some (.int 0 t))
  k_PARTS_OF_if : ∃ t, PySem.W.nsIn K d_PARTS_OF "if" = some (some (.int 2 t))
  k_PARTS_OF_all : ∃ t, PySem.W.nsIn K d_PARTS_OF "all" = some (some (.int 1 t))
  g_ALL_AHEAD : ∃ u, mg "ALL_AHEAD" = some u ∧ RelV (.str "all ") u
  g_BETWEEN : ∃ u, mg "BETWEEN" = some u ∧ RelV (.str " > ") u
  g_Formula : mg "Formula" = some (.ref (cl 0))
  z0 : CZ K (cl 0) fmNames
  y0 : NeC K (cl 0)
  q0 : NotC K (cl 0)
  g_BadFormula : mg "BadFormula" = some (.ref (cl 11))
  x11 : ErC K (cl 11) "value"
  v11_11 : PySem.W.exmOne K (.ref (cl 11)) (.ref (cl 11)) = some true
  i11_11 : PySem.W.kitOne K (.ref (cl 11)) (.ref (cl 11)) = some true
  t0_str : PySem.W.kitOne K (.ref (cl 0)) (.type "str") = some false
  ec11 : ExcC K (cl 11)
  noK : kdNo K d_PARTS_OF ["not", "If", "", "ab", "1", " ", "(", "all a"] = true
  nf0_str : PySem.W.notFirst K (cl 0) (.type "str") = true
  nf0_int : PySem.W.notFirst K (cl 0) (.type "int") = true
  nf0_bool : PySem.W.notFirst K (cl 0) (.type "bool") = true
  nf0_non : PySem.W.notFirst K (cl 0) (.type "NoneType") = true
  nf0_tup : PySem.W.notFirst K (cl 0) (.type "tuple") = true
  nf0_lst : PySem.W.notFirst K (cl 0) (.type "list") = true
  nf0_dct : PySem.W.notFirst K (cl 0) (.type "dict") = true
abbrev s_BadFormula___init__ : Stmt := inClass (top 3) 0
theorem sc_BadFormula___init__ : FnScope ["self", "value"] ["self", "value"] (defScope s_BadFormula___init__) := ⟨rfl, rfl, rfl, by decide +kernel, rfl, by decide +kernel, by decide +kernel⟩
theorem e_BadFormula {P : Program} {w : World} {K : PySem.W.Frag} {mg : Str → Option Value} {base : Heap} {cl : Nat → Addr} {f : Addr} {fd : FuncData} {BW : Addr} (iC : PySem.W.findIn K (.ref (cl 11)) "__init__" = some (some (.ref f))) (tI : PySem.W.typeIn K (.ref f) = some (.type "function")) (bw : BaseX K BW) (gw : mg "WebError" = some (.ref BW)) (Z : ZZ K w mg cl) (Fn : Fun K "__init__" "BadFormula.__init__" s_BadFormula___init__ f fd) : ErrU P w K mg base 1 "BadFormula" (cl 11) "value" := by
  exact errUD Z.x11 iC tI Z.g_BadFormula Fn sc_BadFormula___init__ rfl rfl (fun _ _ _ _ _ _ us hl => match us, hl with | [_, _], _ => rfl) (fun _ _ _ _ _ _ u ws hl => match ws, hl with | [_], _ => rfl) fun cdv A outer s H E => ⟨_, pss_cons (ps_expr (pe_exinit bw (by rfl) gw (pa_cons (pv 0) (pa_cons pe_str pa_nil)))) (pss_one (ps_osx (pv 0) (pv 1) rfl))⟩
abbrev s_united : Stmt := top 15
theorem sc_united : FnScope ["one", "other"] ["one", "other"] (defScope s_united) := ⟨rfl, rfl, rfl, by decide +kernel, rfl, by decide +kernel, by decide +kernel⟩
theorem c_united {P : Program} {w : World} {K : PySem.W.Frag} {mg : Str → Option Value} {base : Heap} {cl : Nat → Addr} {f : Addr} {fd : FuncData} (hm : mg "united" = some (.ref f)) (B : Blt mg) (Z : ZZ K w mg cl) (Fn : Fun K "united" "united" s_united f fd) : Cal P w K mg base 1 "united" (spN FK ⟨K, cl⟩ S_united) [] := by
  have fz := Z.z0
  refine calD hm Fn sc_united (by intro ds W post h; first | (obtain ⟨rfl, _⟩ := h; rfl) | (obtain ⟨_, rfl, _⟩ := h; rfl) | (obtain ⟨_, _, rfl, _⟩ := h; rfl) | (obtain ⟨_, _, _, rfl, _⟩ := h; rfl) | (obtain ⟨_, _, _, _, rfl, _⟩ := h; rfl) | (obtain ⟨_, _, _, _, _, rfl, _⟩ := h; rfl) | (obtain ⟨_, _, _, _, _, _, rfl, _⟩ := h; rfl) | (obtain ⟨_, _, _, _, _, _, _, rfl, _⟩ := h; rfl) | (obtain ⟨_, _, _, _, _, _, _, _, rfl, _⟩ := h; rfl) | (obtain ⟨_, _, _, _, _, _, _, _, _, rfl, _⟩ := h; rfl) | (obtain ⟨_, _, _, _, _, _, _, _, _, _, rfl, _⟩ := h; rfl) | (obtain ⟨_, _, _, _, _, _, _, _, _, _, _, rfl, _⟩ := h; rfl)) (fun _ _ _ _ _ _ us hl => match us, hl with | [_, _], _ => rfl) fun cdv A outer s H E hr => ⟨_, pss_one (ps_ret (pe_ifExp (pt_cmpR op_eq (pv 0) (pv 1) (nomark _)) (pv 0) (pe_join pe_str (pe_callB (cr_sortedT rfl) (by rfl) B.sorted bt_sorted (pa_cons (pe_callTy (cr_setT rfl) (by rfl) B.set bt_set (pa_cons (pe_op op_add_str (pv 0) (pv 1)) pa_nil)) pa_nil))))), ?_⟩
  rintro ds W post ⟨x, y, rfl, hl, rfl, k⟩
  try dsimp only [cxOf, Cx.nox, Cx.wish]
  walk_at "st"
  refine if_dec (fun e => ?_) (fun e => ?_)
  · walk_at "st"
    show post _ _
    simpa [unite, e] using k
  · have h16 := sizeLine_eq
    walk_at "st"
    refine ev_join ?_
    walk_at "st"
    refine bo_addS (by omega) ?_
    try walk_at "st"
    refine ca_setT (.inr ⟨_, rfl, rfl⟩) (by unfold signs; rw [List.length_map, ← str_len, str_app_len]; omega) fun p c hp hc => ?_
    have hs : (signs (x ++ y)).length = x.length + y.length := by unfold signs; rw [List.length_map, ← str_len, str_app_len]
    walk_at "st"
    refine ca_sortedT (by omega) ⟨ascS (signs (x ++ y)), .inl (.inl (.inl rfl)), ?_, ?_⟩
    · have h1 := ascS_len (signs (x ++ y))
      have h2 : (ascS (signs (x ++ y))).map (·.length) = (ascS (signs (x ++ y))).map fun _ => 1 := List.map_congr_left fun z hz => by
        obtain ⟨c, _, e⟩ := List.mem_map.mp (mem_ascS.mp hz)
        subst e
        rfl
      rw [h2, List.map_const', List.sum_replicate_nat]
      show _ * 1 + _ * 0 ≤ _
      omega
    · have e1 : signs (x ++ y) = ((lets x ++ lets y)).map sg := by unfold signs; rw [str_app]; rfl
      rw [e1, ascS_sg, join_nil_sg]
      have e2 : unite x y = ⟨((lets x ++ lets y).foldr insN []).toArray⟩ := by unfold unite; rw [if_neg e]
      rw [← e2]
      exact k
abbrev s_merged : Stmt := top 16
theorem sc_merged : FnScope ["one", "other", "formula", "found", "text"] ["one", "other"] (defScope s_merged) := ⟨rfl, rfl, rfl, by decide +kernel, rfl, by decide +kernel, by decide +kernel⟩
theorem c_merged {P : Program} {w : World} {K : PySem.W.Frag} {mg : Str → Option Value} {base : Heap} {cl : Nat → Addr} {f : Addr} {fd : FuncData} (hm : mg "merged" = some (.ref f)) (B : Blt mg) (Z : ZZ K w mg cl) (Fn : Fun K "merged" "merged" s_merged f fd) : Cal P w K mg base 1 "merged" (spN FK ⟨K, cl⟩ S_merged) [] := by
  have fz := Z.z0
  refine calD hm Fn sc_merged (by intro ds W post h; first | (obtain ⟨rfl, _⟩ := h; rfl) | (obtain ⟨_, rfl, _⟩ := h; rfl) | (obtain ⟨_, _, rfl, _⟩ := h; rfl) | (obtain ⟨_, _, _, rfl, _⟩ := h; rfl) | (obtain ⟨_, _, _, _, rfl, _⟩ := h; rfl) | (obtain ⟨_, _, _, _, _, rfl, _⟩ := h; rfl) | (obtain ⟨_, _, _, _, _, _, rfl, _⟩ := h; rfl) | (obtain ⟨_, _, _, _, _, _, _, rfl, _⟩ := h; rfl) | (obtain ⟨_, _, _, _, _, _, _, _, rfl, _⟩ := h; rfl) | (obtain ⟨_, _, _, _, _, _, _, _, _, rfl, _⟩ := h; rfl) | (obtain ⟨_, _, _, _, _, _, _, _, _, _, rfl, _⟩ := h; rfl) | (obtain ⟨_, _, _, _, _, _, _, _, _, _, _, rfl, _⟩ := h; rfl)) (fun _ _ _ _ _ _ us hl => match us, hl with | [_, _], _ => rfl) fun cdv A outer s H E hr => ⟨_, pss_cons (ps_if (PW.pt (pw_or (pt_cmpR op_eq (pe_callB call_len (by rfl) B.len bt_len (pa_cons (pv 0) pa_nil)) pe_int (nomark _)) (pw_or1 (pt_cmpR op_eq (pe_callB call_len (by rfl) B.len bt_len (pa_cons (pv 1) pa_nil)) pe_int (nomark _))))) (pss_one (ps_ret (pe_op op_catA (pv 0) (pv 1)))) (pss_nil))
 (pss_cons (ps_set (i := 3) sc_merged.nd rfl (Or.inr rfl) (pe_dc (own := [("formula", 2)]) (by rfl) sc_merged.nd (pi_tup (pe_op op_catA (pv 0) (pv 1))) (blkOk_by (own := [("formula", 2)]) (N := ["one", "other", "formula", "found", "text"]) (sc := defScope s_merged) (by decide +kernel)) (fun _ _ _ _ _ => (pg_name (i := 2) sc_merged.nd rfl (Or.inl rfl))) (fun _ _ _ _ _ => pts_nil) (fun _ _ _ _ _ => (pe_fldK (K := K) rfl (pv 2) rfl)) (fun _ _ _ _ _ => (pv 2))))
 (pss_one (ps_ret (pe_callTy call_tuple_of (by rfl) B.tuple bt_tuple (pa_cons (pe_lc (own := [("text", 4)]) (by rfl) sc_merged.nd (pi_list (pe_callB (call_sortedD rfl) (by rfl) B.sorted bt_sorted (pa_cons (pv 3) pa_nil))) (blkOk_by (own := [("text", 4)]) (N := ["one", "other", "formula", "found", "text"]) (sc := defScope s_merged) (by decide +kernel)) (fun _ _ _ _ _ => (pg_name (i := 4) sc_merged.nd rfl (Or.inl rfl))) (fun _ _ _ _ _ => pts_nil) (fun _ _ _ _ _ => (pe_dget (by exact hu_of hr) (pv 3) (pv 4) (fun _ _ => rfl)))) pa_nil))))), ?_⟩
  rintro ds W post ⟨e1, e2, rfl, hs, l1, l2, lm, k⟩
  try dsimp only [cxOf, Cx.nox, Cx.wish]
  walk_at "st"
  try refine ca_len (.inr rfl) ?_
  walk_at "st"
  refine if_dec (fun h1 => ?_) (fun h1 => ?_)
  · try refine if_so rfl ?_
    walk_at "st"
    refine bo_catA (by have := sizeLine_eq; simp; omega) ?_
    have e : e1 = [] := by simpa using h1
    subst e
    exact k e2 (by simp [Fm.merge]) (fun p h => by simpa using h)
  · walk_at "st"
    try refine ca_len (.inr rfl) ?_
    walk_at "st"
    refine if_dec (fun h2 => ?_) (fun h2 => ?_)
    · walk_at "st"
      refine bo_catA (by have := sizeLine_eq; simp; omega) ?_
      have e : e2 = [] := by simpa using h2
      subst e
      have e : e1 ≠ [] := by simpa using h1
      refine (show post (.tup (e1.map (·.1) ++ [])) W from ?_)
      rw [List.append_nil]
      exact k e1 (by simp [Fm.merge, e]) (fun p h => by simpa using h)
    · have n1 : e1 ≠ [] := by simpa using h1
      have n2 : e2 ≠ [] := by simpa using h2
      walk_at "st"
      refine ev_dc (ei_tup ?_)
      walk_at "st"
      refine bo_catA (by have := sizeLine_eq; simp; omega) ⟨_, rfl, fun i acc W' => W' = W ∧ ∃ l : List (D × Fm), acc = kvE l ∧ (l.map fun p => p.2.spell).Nodup ∧ (∀ p ∈ l, p ∈ e1 ++ e2) ∧ (∀ p ∈ (e1 ++ e2).take i, p.2 ∈ l.map (·.2)) ∧ l.length ≤ i, ⟨rfl, [], rfl, List.nodup_nil, by simp, by simp, by simp⟩, ?_, ?_⟩
      · rintro i d acc W' hd ⟨rfl, l, rfl, nd, hl, hm, hn⟩
        rw [← List.map_append, List.getElem?_map] at hd
        obtain ⟨p, hp, e⟩ := Option.map_eq_some_iff.mp hd
        subst e
        have hpm : p ∈ e1 ++ e2 := List.mem_of_getElem? hp
        refine tw_name (by simp) (et_yes ?_)
        try refine if_so rfl ?_
        refine ev_spl (g := p.2) Z.z0 ?_
        walk_at "st"
        refine ⟨(hs p hpm).2, ?_⟩
        walk_at "st"
        obtain ⟨l', e, h3, h4, h5, h6⟩ := put_kvE (d := p.1) (fun q hq => (hs q (hl q hq)).1) (hs p hpm).1
        have hi : i < (e1 ++ e2).length := (List.getElem?_eq_some_iff.mp hp).1
        refine ⟨by have := sizeLine_eq; simp at hi ⊢; omega, rfl, l', e, ?_, fun q hq => ?_, fun q hq => ?_, by omega⟩
        · have := putG_nodup (k := Sum.inr p.2.spell) (z := p.1) (ps := kvE l) (by rw [kvE_keys]; exact nd.map Sum.inr (fun a b hab => fun e => hab (Sum.inr.inj e)))
          rw [e, kvE_keys] at this
          exact List.Pairwise.of_map Sum.inr (fun a b h e => h (by rw [e])) this
        · rcases h3 q hq with h | h
          · exact hl q h
          · rw [h]
            exact hpm
        · rw [List.take_add_one, hp] at hq
          rcases List.mem_append.mp hq with h | h
          · exact h4 _ (hm q h)
          · simp at h
            subst h
            exact h5
      · rintro acc W' ⟨rfl, l, rfl, nd, hl, hm, hn⟩ p hp
        have e0 : (e1.map (·.1) ++ e2.map (·.1)).length = (e1 ++ e2).length := by simp
        rw [e0, List.take_length] at hm
        have ms : ∀ x, x ∈ l.map (·.2) ↔ x ∈ e1.map (·.2) ++ e2.map (·.2) := fun x => by
          rw [← List.map_append]
          constructor
          · intro h
            obtain ⟨q, hq, e⟩ := List.mem_map.mp h
            exact List.mem_map.mpr ⟨q, hl q hq, e⟩
          · intro h
            obtain ⟨q, hq, e⟩ := List.mem_map.mp h
            subst e
            exact hm q hq
        have ok2 : ∀ x ∈ e1.map (·.2) ++ e2.map (·.2), x.okL := fun x hx => by
          rw [← List.map_append] at hx
          obtain ⟨q, hq, e⟩ := List.mem_map.mp hx
          subst e
          exact (hs q hq).1
        have nd2 : (l.map (·.2)).Nodup := by
          have : ((l.map (·.2)).map Fm.spell).Nodup := by
            rw [List.map_map]
            exact nd
          exact List.Pairwise.of_map Fm.spell (fun a b h e => h (by rw [e])) this
        walk_at "st"
        refine ev_lc (ei_list ?_)
        walk_at "st"
        refine ca_sortedD (ps := kvE l) (ks := l.map fun p => p.2.spell) (.inr ⟨p, rfl, List.mem_cons_self⟩) (kvE_keys l) ?_ ?_
        · refine Nat.lt_of_le_of_lt ?_ lm
          have := Fm.len_le nd2 (m := Fm.merge (e1.map (·.2)) (e2.map (·.2))) fun x hx => by
            rw [Fm.mem_merge, ← List.mem_append]
            exact (ms x).mp hx
          simpa using this
        · intro ys hp2 hss
          obtain ⟨e', hpe, ey⟩ := perm_map_inv hp2
          subst ey
          refine ⟨_, rfl, fun i acc W2 => acc = (e'.take i).map (·.1) ∧ W2 = (p, .dp (kvE l)) :: W', ⟨by simp, rfl⟩, ?_, ?_⟩
          · rintro i d acc W2 hd ⟨rfl, rfl⟩
            rw [List.map_map, List.getElem?_map] at hd
            obtain ⟨q, hq, e⟩ := Option.map_eq_some_iff.mp hd
            subst e
            have hqm : q ∈ l := hpe.mem_iff.mp (List.mem_of_getElem? hq)
            refine tw_name (by simp) (et_yes ?_)
            try refine if_so rfl ?_
            refine ev_dget ?_
            walk_at "st"
            refine ⟨kvE l, Sum.inr q.2.spell, q.1, .inr ⟨p, rfl, List.mem_cons_self⟩, rfl, getG_kvE hqm nd, ?_, ?_, rfl⟩
            · have h7 := hpe.length_eq
              have := sizeLine_eq
              simp at hn ⊢
              omega
            · rw [List.take_add_one, hq]
              simp
          · rintro acc W2 ⟨rfl, rfl⟩ p2 hp3
            walk_at "st"
            refine ca_drp (ca_tup (.inr ⟨p2, rfl, List.mem_cons_self⟩) ?_)
            refine ⟨W', (List.sublist_cons_self _ _).trans (List.sublist_cons_self _ _), ?_⟩
            have e : (e'.take (List.map D.str (e'.map fun p => p.2.spell)).length) = e' := by simp
            rw [e]
            refine k e' (merge_of (by simpa using n1) (by simpa using n2) ok2 hss (hp2.nodup_iff.mpr nd) fun x => ?_) fun q hq => hl q (hpe.mem_iff.mp hq)
            rw [← ms x]
            exact (hpe.map _).mem_iff
abbrev s_is_atom : Stmt := top 14
theorem sc_is_atom : FnScope ["thing"] ["thing"] (defScope s_is_atom) := ⟨rfl, rfl, rfl, by decide +kernel, rfl, by decide +kernel, by decide +kernel⟩
theorem c_is_atom {P : Program} {w : World} {K : PySem.W.Frag} {mg : Str → Option Value} {base : Heap} {cl : Nat → Addr} {f : Addr} {fd : FuncData} (hm : mg "is_atom" = some (.ref f)) (B : Blt mg) (Z : ZZ K w mg cl) (Fn : Fun K "is_atom" "is_atom" s_is_atom f fd) : Cal P w K mg base 1 "is_atom" (spN FK ⟨K, cl⟩ S_isatomV) [] ∧ CalK P w K mg base 1 "is_atom" ["thing"] (fun _ zs => zs) (spN FK ⟨K, cl⟩ S_isatomV) := by
  have fz := Z.z0
  refine calDK hm Fn sc_is_atom (by intro ds W post h; first | (obtain ⟨rfl, _⟩ := h; rfl) | (obtain ⟨_, rfl, _⟩ := h; rfl) | (obtain ⟨_, _, rfl, _⟩ := h; rfl) | (obtain ⟨_, _, _, rfl, _⟩ := h; rfl) | (obtain ⟨_, _, _, _, rfl, _⟩ := h; rfl) | (obtain ⟨_, _, _, _, _, rfl, _⟩ := h; rfl) | (obtain ⟨_, _, _, _, _, _, rfl, _⟩ := h; rfl) | (obtain ⟨_, _, _, _, _, _, _, rfl, _⟩ := h; rfl) | (obtain ⟨_, _, _, _, _, _, _, _, rfl, _⟩ := h; rfl) | (obtain ⟨_, _, _, _, _, _, _, _, _, rfl, _⟩ := h; rfl) | (obtain ⟨_, _, _, _, _, _, _, _, _, _, rfl, _⟩ := h; rfl) | (obtain ⟨_, _, _, _, _, _, _, _, _, _, _, rfl, _⟩ := h; rfl)) (fun _ _ _ _ _ _ us hl => match us, hl with | [_], _ => rfl) (kb_of (g := (fun _ ws => ws)) Fn (fun _ _ _ _ _ _ us hl => match us, hl with | [_], _ => rfl) (fun _ h2 => by first | exact h2 | exact h2.reverse)) fun cdv A outer s H E hr => ⟨_, pss_one (ps_ret (pe_and (pe_callB call_isi (by rfl) B.isinstance bt_isinstance (pa_cons (pv 0) (pa_cons (pe_bltn (by rfl) B.str bt_str (relV_ty _)) pa_nil))) (pe_and (pe_cmpR op_eq (pe_callB call_len (by rfl) B.len bt_len (pa_cons (pv 0) pa_nil)) pe_int (nomark _)) (pe_one (pe_cmpR op_in_sign (pv 0) (C8.pe_gc (by rfl) Z.g_LETTERS) rfl))))), ?_⟩
  rintro ds W post ⟨d, rfl, rfl, ⟨x, rfl, hl, k⟩ | ⟨hn | ⟨f, rfl⟩, k⟩⟩
  try dsimp only [cxOf, Cx.nox, Cx.wish]
  · walk_at "st"
    try refine if_so rfl ?_
    walk_at "st"
    refine ca_lenS (by have := sizeLine_eq; omega) ?_
    walk_at "st"
    refine if_dec (fun e => ?_) (fun e => ?_)
    · have e : x.length = 1 := by omega
      obtain ⟨c, rfl⟩ := one_sign e
      walk_at "st"
      refine bo_inSg ?_
      walk_at "st"
      rw [in_letters]
      exact k
    · rw [isLet_long (show x.length ≠ 1 by omega)] at k
      exact k
  · walk_at "st"
    refine isi_notStr hn ?_
    refine ⟨_, rfl, ?_⟩
    refine if_not rfl ?_
    exact k
  · walk_at "st"
    refine ca_isi (.ty "str") (tyd_ins (.fm f) Z.z0.ins) Z.t0_str ?_
    refine ⟨_, rfl, ?_⟩
    refine if_not rfl ?_
    exact k
end
section
theorem kd_facts {P : Program} {w : World} {K : PySem.W.Frag} {mg : Str → Option Value} {cl : Nat → Addr} (Z : ZZ K w mg cl) (f : Fm) : (∃ r, PySem.W.nsIn K Z.d_PARTS_OF f.kind = some (some r)) ∧ KDct K w Z.d_PARTS_OF f.kind (.int ((partsD f).length : Nat)) := by
  cases f with
  | «at» c => obtain ⟨t, h⟩ := Z.k_PARTS_OF_atom; exact ⟨⟨_, h⟩, _, _, _, Z.t_PARTS_OF.at_, Z.t_PARTS_OF.lit, h, t, rfl⟩
  | no => obtain ⟨t, h⟩ := Z.k_PARTS_OF_no; exact ⟨⟨_, h⟩, _, _, _, Z.t_PARTS_OF.at_, Z.t_PARTS_OF.lit, h, t, rfl⟩
  | imp a b => obtain ⟨t, h⟩ := Z.k_PARTS_OF_if; exact ⟨⟨_, h⟩, _, _, _, Z.t_PARTS_OF.at_, Z.t_PARTS_OF.lit, h, t, rfl⟩
  | all a => obtain ⟨t, h⟩ := Z.k_PARTS_OF_all; exact ⟨⟨_, h⟩, _, _, _, Z.t_PARTS_OF.at_, Z.t_PARTS_OF.lit, h, t, rfl⟩
abbrev s_Formula___init__ : Stmt := inClass (top 17) 0
theorem sc_Formula___init__ : FnScope ["self", "kind", "parts", "part", "inner", "first", "second"] ["self", "kind", "parts"] (defScope s_Formula___init__) := ⟨rfl, rfl, rfl, by decide +kernel, rfl, by decide +kernel, by decide +kernel⟩
theorem m_Formula {P : Program} {w : World} {K : PySem.W.Frag} {mg : Str → Option Value} {base : Heap} {cl : Nat → Addr} {f : Addr} {fd : FuncData} (mk : Mk K (cl 0) f) (B : Blt mg) (Z : ZZ K w mg cl) (Fn : Fun K "__init__" "Formula.__init__" s_Formula___init__ f fd)
    (c_united : Cal P w K mg base 1 "united" (spN FK ⟨K, cl⟩ S_united) [])
    (c_merged : Cal P w K mg base 1 "merged" (spN FK ⟨K, cl⟩ S_merged) [])
    (c_is_atom : Cal P w K mg base 1 "is_atom" (spN FK ⟨K, cl⟩ S_isatomV) []) : MakR P w K mg base 2 "Formula" (cl 0) (spN FK ⟨K, cl⟩ (starS 2 S_init)) := by
  have fz := Z.z0
  refine ⟨f, mk, okS (ps := ["self", "kind"]) (pv := "parts") Fn sc_Formula___init__ (fun _ _ _ _ _ _ us rest hl => match us, hl, rest with | [_, _], _, [] => rfl | [_, _], _, [_] => rfl | [_, _], _, _ :: _ :: _ => rfl) fun cdv A outer s H E hr => ⟨_, PSs.nox (pss_cons (ps_if (PW.pt (pw_or (pt_not (pt_val (pe_callB call_isi (by rfl) B.isinstance bt_isinstance (pa_cons (pv 1) (pa_cons (pe_bltn (by rfl) B.str bt_str (relV_ty _)) pa_nil))))) (pw_or1 (pt_cmpR (op_notIn_kd Z.t_PARTS_OF) (pv 1) (pe_glob (by rfl) Z.g_PARTS_OF (relV_ref _)) rfl)))) (pss_one (ps_never)) (pss_nil))
 (pss_cons (ps_if (pt_cmpR op_ne (pe_callB call_len (by rfl) B.len bt_len (pa_cons (pv 2) pa_nil)) (pe_ix ix_kdict (pe_glob (by rfl) Z.g_PARTS_OF (relV_ref _)) (pv 1) (fun _ _ => rfl)) (nomark _)) (pss_one (ps_never)) (pss_nil))
 (pss_cons (ps_for PassesOwn.never rfl (pi_tup (pv 2)) (pg_name (i := 3) sc_Formula___init__.nd rfl (Or.inl rfl)) (pss_one (ps_if (pt_not (pt_ifE (pt_cmpR op_eq (pv 1) (C8.pe_gc (by rfl) Z.g_ATOM) (nomark _)) (pt_val (pe_c c_is_atom hr (by omega) (by rfl) (pa_cons (pv 3) pa_nil))) (pt_val (pe_callB call_isi (by rfl) B.isinstance bt_isinstance (pa_cons (pv 3) (pa_cons (pe_glob (by rfl) Z.g_Formula (relV_ref _)) pa_nil)))))) (pss_one (ps_never)) (pss_nil))))
 (pss_cons (ps_fld (pv 0) (pv 1) rfl)
 (pss_cons (ps_fld (pv 0) (pv 2) rfl)
 (pss_cons (ps_fld (pv 0) pe_int rfl)
 (pss_cons (ps_fld (pv 0) (pe_callTy call_int1 (by rfl) B.int bt_int (pa_cons (pe_cmpR op_eq (pv 1) (C8.pe_gc (by rfl) Z.g_ALL) (nomark _)) pa_nil)) rfl)
 (pss_cons (ps_asg2 pe_str (pg_fld (pv 0)) (pg_fld (pv 0)))
 (pss_cons (ps_asg (pe_tup (pa_cons (C8.pe_gc (by rfl) Z.g_NO) (pa_cons (pe_tup pa_nil) pa_nil))) (pg_tup (n := 2) rfl (pgs_cons (pg_fld (pv 0)) (pgs_cons (pg_fld (pv 0)) pgs_nil))))
 (pss_one (ps_if (pt_cmpR op_eq (pv 1) (C8.pe_gc (by rfl) Z.g_ATOM) (nomark _)) (pss_one (ps_asg3 (pe_ix ix_tup (pv 2) pe_int (fun _ _ => rfl)) (pg_fld (pv 0)) (pg_fld (pv 0)) (pg_fld (pv 0)))) (pss_one (ps_if (pt_cmpR op_eq (pv 1) (C8.pe_gc (by rfl) Z.g_ALL) (nomark _)) (pss_cons (ps_set (i := 4) sc_Formula___init__.nd rfl (Or.inl rfl) (pe_ix ix_tup (pv 2) pe_int (fun _ _ => rfl)))
 (pss_cons (ps_asg (pe_tup (pa_cons (pe_op op_add pe_int (pe_fld (pv 4) rfl)) (pa_cons (pe_op op_add pe_int (pe_fld (pv 4) rfl)) pa_nil))) (pg_tup (n := 2) rfl (pgs_cons (pg_fld (pv 0)) (pgs_cons (pg_fld (pv 0)) pgs_nil))))
 (pss_cons (ps_asg (pe_tup (pa_cons (pe_fld (pv 4) rfl) (pa_cons (pe_op op_add_str (C8.pe_gc (by rfl) Z.g_ALL_AHEAD) (pe_fld (pv 4) rfl)) pa_nil))) (pg_tup (n := 2) rfl (pgs_cons (pg_fld (pv 0)) (pgs_cons (pg_fld (pv 0)) pgs_nil))))
 (pss_one (ps_fld (pv 0) (pe_c c_merged hr (by omega) (by rfl) (pa_cons (pe_fld (pv 4) rfl) (pa_cons (pe_tup (pa_cons (pv 0) pa_nil)) pa_nil))) rfl))))) (pss_one (ps_if (pt_cmpR op_eq (pv 1) (C8.pe_gc (by rfl) Z.g_IF) (nomark _)) (pss_cons (ps_asg (pv 2) (pg_tup (n := 2) rfl (pgs_cons (pg_name (i := 5) sc_Formula___init__.nd rfl (Or.inl rfl)) (pgs_cons (pg_name (i := 6) sc_Formula___init__.nd rfl (Or.inl rfl)) pgs_nil))))
 (pss_cons (ps_asg (pe_tup (pa_cons (pe_op op_add (pe_op op_add pe_int (pe_fld (pv 5) rfl)) (pe_fld (pv 6) rfl)) (pa_cons (pe_callB (call_max2 rfl) (by rfl) B.max bt_max (pa_cons (pe_fld (pv 5) rfl) (pa_cons (pe_fld (pv 6) rfl) pa_nil))) pa_nil))) (pg_tup (n := 2) rfl (pgs_cons (pg_fld (pv 0)) (pgs_cons (pg_fld (pv 0)) pgs_nil))))
 (pss_cons (ps_fld (pv 0) (pe_c c_united hr (by omega) (by rfl) (pa_cons (pe_fld (pv 5) rfl) (pa_cons (pe_fld (pv 6) rfl) pa_nil))) rfl)
 (pss_cons (ps_fld (pv 0) (pe_c c_united hr (by omega) (by rfl) (pa_cons (pe_fld (pv 5) rfl) (pa_cons (pe_fld (pv 6) rfl) pa_nil))) rfl)
 (pss_cons (ps_fld (pv 0) (pe_c c_merged hr (by omega) (by rfl) (pa_cons (pe_fld (pv 5) rfl) (pa_cons (pe_fld (pv 6) rfl) pa_nil))) rfl)
 (pss_one (ps_fld (pv 0) (pe_joined (PJ.cons pe_str (PJ.cons (pe_fmt (pe_fld (pv 5) rfl)) (PJ.cons (pe_fmt (C8.pe_gc (by rfl) Z.g_BETWEEN)) (PJ.cons (pe_fmt (pe_fld (pv 6) rfl)) (PJ.cons pe_str PJ.nil)))))) rfl))))))) (pss_nil)))))))))))))))), ?_⟩, Z.g_Formula⟩
  rintro ds W post ⟨x, f, rfl, rfl, hf, k⟩
  try dsimp only [cxOf, Cx.nox, Cx.wish]
  walk_at "st"
  obtain ⟨⟨r0, hk1⟩, hk2⟩ := kd_facts (P := P) Z f
  walk_at "st"
  try refine if_not rfl ?_
  walk_at "st"
  refine bo_knin hk1 ?_
  walk_at "st"
  try refine if_not rfl ?_
  walk_at "st"
  try refine ca_len (.inr rfl) ?_
  walk_at "st"
  refine bo_kix hk2 ?_
  walk_at "st"
  refine if_not (by simp) ?_
  walk_at "st"
  refine sw_for (ei_tup ?_)
  walk_at "st"
  refine ⟨fun i G' W' => W' = [(x, .ins 0 [] [])] ∧ ∃ o, G' = [some (.adr x), some (.str f.kind), some (.tup (partsD f)), o, none, none, none], ⟨rfl, _, rfl⟩, ?_, ?_⟩
  · rintro i d G' W' hd ⟨rfl, o, rfl⟩
    refine tg_name ?_
    walk_at "st"
    refine if_dec (fun e => ?_) (fun e => ?_)
    · obtain ⟨c, rfl⟩ := kind_at.mp e
      have hd := List.mem_of_getElem? hd
      simp only [partsD, List.mem_singleton] at hd
      subst hd
      walk_at "st"
      refine hand0 ⟨_, rfl, rfl, .inl ⟨_, rfl, Nat.le_of_ble_eq_true rfl, ?_⟩⟩
      rw [show isLet ⟨#[c]⟩ = true from (isLet_sg c).trans (decide_eq_true hf.ok)]
      simp only [List.nil_append]
      walk_at "st"
      try refine if_not rfl ?_
      walk_at "st"
      exact ⟨rfl, _, rfl⟩
    · obtain ⟨g, rfl⟩ := parts_fm (fun c ec => e (kind_at.mpr ⟨c, ec⟩)) d (List.mem_of_getElem? hd)
      walk_at "st"
      try refine isi_ins (.fm g) Z.z0.ins ?_
      walk_at "st"
      try refine if_not rfl ?_
      walk_at "st"
      exact ⟨rfl, _, rfl⟩
  · rintro G' W' ⟨rfl, o, rfl⟩
    walk_at "st"
    refine rcv_new Z.z0 (by decide +kernel) (by decide +kernel) (by decide) ?_
    walk_at "st"
    refine rcv_new Z.z0 (by decide +kernel) (by decide +kernel) (by decide) ?_
    walk_at "st"
    refine rcv_new Z.z0 (by decide +kernel) (by decide +kernel) (by decide) ?_
    walk_at "st"
    refine rcv_new Z.z0 (by decide +kernel) (by decide +kernel) (by decide) ?_
    walk_at "st"
    refine rcv_new Z.z0 (by decide +kernel) (by decide +kernel) (by decide) ?_
    walk_at "st"
    refine rcv_new Z.z0 (by decide +kernel) (by decide +kernel) (by decide) ?_
    walk_at "st"
    refine rcv_new Z.z0 (by decide +kernel) (by decide +kernel) (by decide) ?_
    walk_at "st"
    refine rcv_new Z.z0 (by decide +kernel) (by decide +kernel) (by decide) ?_
    walk_at "st"
    cases f with
    | «at» c =>
      try refine if_so (show decide (("atom" : Str) = "atom") = true by decide +kernel) ?_
      simp only [partsD]
      walk_at "st"
      refine rcv_at 4 Z.z0 (by decide +kernel) (by decide +kernel) rfl (by decide) ?_
      walk_at "st"
      refine rcv_at 5 Z.z0 (by decide +kernel) (by decide +kernel) rfl (by decide) ?_
      walk_at "st"
      refine rcv_at 6 Z.z0 (by decide +kernel) (by decide +kernel) rfl (by decide) ?_
      exact k [] rfl
    | no =>
      try refine if_not (show decide (("no" : Str) = "atom") = false by decide +kernel) ?_
      walk_at "st"
      try refine if_not (by decide +kernel) ?_
      walk_at "st"
      try refine if_not (by decide +kernel) ?_
      walk_at "st"
      exact k [] rfl
    | all a =>
      try refine if_not (show decide (("all" : Str) = "atom") = false by decide +kernel) ?_
      walk_at "st"
      try refine if_so (show decide (("all" : Str) = "all") = true by decide +kernel) ?_
      simp only [partsD]
      walk_at "st"
      refine rcv_at 2 Z.z0 (by decide +kernel) (by decide +kernel) rfl (by decide) ?_
      walk_at "st"
      refine rcv_at 3 Z.z0 (by decide +kernel) (by decide +kernel) rfl (by decide) ?_
      walk_at "st"
      have hsz := hf.sz
      simp only [Fm.sz] at hsz
      have h16 := sizeLine_eq
      refine bo_addS (by rw [Fm.spell_len]; show 4 + _ ≤ _; omega) ?_
      walk_at "st"
      refine rcv_at 4 Z.z0 (by decide +kernel) (by decide +kernel) rfl (by decide) ?_
      walk_at "st"
      refine rcv_at 6 Z.z0 (by decide +kernel) (by decide +kernel) rfl (by decide) ?_
      walk_at "st"
      refine handA ⟨a.alls.map fun g => (D.fm g, g), [(.adr x, .all a)], by rw [fm_map]; rfl, ?_, ?_, by simp, ?_, ?_⟩
      · intro p hp
        rcases List.mem_append.mp hp with h | h
        · obtain ⟨g, hg, e⟩ := List.mem_map.mp h
          subst e
          exact ⟨(Fm.alls_sub (f := a) hf.a.ok).1 g hg, spl_fm g⟩
        · rw [List.mem_singleton] at h
          subst h
          exact ⟨hf.ok, _, _, .own x 0 _ _ List.mem_cons_self, rfl⟩
      · rw [List.length_map]
        exact hf.a.alls
      · rw [fm_map2]
        exact hf.alls
      · intro e' h1 h2
        rw [fm_map2] at h1
        walk_at "st"
        refine rcv_at 7 Z.z0 (by decide +kernel) (by decide +kernel) rfl (by decide) ?_
        have := allsD_of (x := x) (f := .all a) (e := e') fun p hp => by
          rcases List.mem_append.mp (h2 p hp) with h | h
          · obtain ⟨g, hg, e⟩ := List.mem_map.mp h
            subst e
            exact .inl rfl
          · rw [List.mem_singleton] at h
            subst h
            exact .inr ⟨rfl, rfl⟩
        rw [h1] at this
        exact k _ this
    | imp a b =>
      try refine if_not (show decide (("if" : Str) = "atom") = false by decide +kernel) ?_
      walk_at "st"
      try refine if_not (show decide (("if" : Str) = "all") = false by decide +kernel) ?_
      walk_at "st"
      try refine if_so (show decide (("if" : Str) = "if") = true by decide +kernel) ?_
      simp only [partsD]
      walk_at "st"
      refine rcv_at 2 Z.z0 (by decide +kernel) (by decide +kernel) rfl (by decide) ?_
      walk_at "st"
      refine rcv_at 3 Z.z0 (by decide +kernel) (by decide +kernel) rfl (by decide) ?_
      walk_at "st"
      have la := Fm.atoms_len hf.ok.1
      have lb := Fm.atoms_len hf.ok.2
      have lc := Fm.outer_len hf.ok.1
      have ld := Fm.outer_len hf.ok.2
      refine hand0 ⟨_, _, rfl, by omega, rfl, ?_⟩
      rw [List.nil_append]
      walk_at "st"
      refine rcv_at 4 Z.z0 (by decide +kernel) (by decide +kernel) rfl (by decide) ?_
      walk_at "st"
      refine hand0 ⟨_, _, rfl, by omega, rfl, ?_⟩
      rw [List.nil_append]
      walk_at "st"
      refine rcv_at 5 Z.z0 (by decide +kernel) (by decide +kernel) rfl (by decide) ?_
      walk_at "st"
      refine handA ⟨a.alls.map fun g => (D.fm g, g), b.alls.map fun g => (D.fm g, g), by rw [fm_map, fm_map]; rfl, ?_, ?_, ?_, ?_, ?_⟩
      · intro p hp
        rw [← List.map_append] at hp
        obtain ⟨g, hg, e⟩ := List.mem_map.mp hp
        subst e
        refine ⟨?_, spl_fm g⟩
        rcases List.mem_append.mp hg with h | h
        · exact (Fm.alls_sub hf.l.ok).1 g h
        · exact (Fm.alls_sub hf.r.ok).1 g h
      · rw [List.length_map]
        exact hf.l.alls
      · rw [List.length_map]
        exact hf.r.alls
      · rw [fm_map2, fm_map2]
        exact hf.alls
      · intro e' h1 h2
        rw [fm_map2, fm_map2] at h1
        walk_at "st"
        refine rcv_at 7 Z.z0 (by decide +kernel) (by decide +kernel) rfl (by decide) ?_
        have := allsD_of (x := x) (f := .imp a b) (e := e') fun p hp => by
          have h := h2 p hp
          rw [← List.map_append] at h
          obtain ⟨g, hg, e⟩ := List.mem_map.mp h
          subst e
          exact .inl rfl
        rw [h1] at this
        have k2 := k _ this
        walk_at "st"
        refine ev_joined ?_
        have hsz := hf.sz
        simp only [Fm.sz] at hsz
        have h16 := sizeLine_eq
        have l1 : ("(" : Str).length = 1 := rfl
        have l2 : (" > " : Str).length = 3 := rfl
        have l3 : (")" : Str).length = 1 := rfl
        have l4 := Fm.spell_len a
        have l5 := Fm.spell_len b
        refine ev_c ⟨_, rfl, by rw [empty_app, l1]; omega, ?_⟩
        refine ev_fmt ?_
        walk_at "st"
        refine ⟨by omega, _, rfl, by rw [empty_app, str_app_len]; omega, ?_⟩
        refine ev_fmt ?_
        walk_at "st"
        refine ⟨by rw [empty_app, str_app_len, str_app_len]; omega, ?_⟩
        refine ev_fmt ?_
        walk_at "st"
        refine ⟨by omega, _, rfl, by rw [empty_app, str_app_len, str_app_len, str_app_len]; omega, ?_⟩
        refine ev_c ⟨_, rfl, by rw [empty_app, str_app_len, str_app_len, str_app_len, str_app_len]; omega, ?_⟩
        rw [empty_app]
        refine ev_var rfl ?_
        refine rcv_at 6 Z.z0 (by decide +kernel) (by decide +kernel) rfl (by decide) ?_
        rw [max_int]
        exact k2
end
section
theorem mx_Formula {P : Program} {w : World} {K : PySem.W.Frag} {mg : Str → Option Value} {base : Heap} {cl : Nat → Addr} {f : Addr} {fd : FuncData} (mk : Mk K (cl 0) f) (B : Blt mg) (Z : ZZ K w mg cl) (Fn : Fun K "__init__" "Formula.__init__" s_Formula___init__ f fd)
    (c_united : Cal P w K mg base 1 "united" (spN FK ⟨K, cl⟩ S_united) [])
    (c_merged : Cal P w K mg base 1 "merged" (spN FK ⟨K, cl⟩ S_merged) [])
    (c_is_atom : Cal P w K mg base 1 "is_atom" (spN FK ⟨K, cl⟩ S_isatomV) [])
    (e_BadFormula : ErrU P w K mg base 1 "BadFormula" (cl 11) "value") : MakRX P w K mg base 3 "Formula" (cl 0) (spX FK ⟨K, cl⟩ (starSX 2 S_initX02)) := by
  have fz := Z.z0
  refine ⟨f, mk, okSX (ps := ["self", "kind"]) (pv := "parts") Fn sc_Formula___init__ (fun _ _ _ _ _ _ us rest hl => match us, hl, rest with | [_, _], _, [] => rfl | [_, _], _, [_] => rfl | [_, _], _, _ :: _ :: _ => rfl) fun cdv A outer s H E hr => ⟨_, pss_cons (ps_if (PW.pt (pw_or (pt_not (pt_val (pe_callB call_isi (by rfl) B.isinstance bt_isinstance (pa_cons (pv 1) (pa_cons (pe_bltn (by rfl) B.str bt_str (relV_ty _)) pa_nil))))) (pw_or1 (pt_cmpR (op_notIn_kd Z.t_PARTS_OF) (pv 1) (pe_glob (by rfl) Z.g_PARTS_OF (relV_ref _)) rfl)))) (pss_one (L2N.ps_raise rfl (L2N.takes_of rfl rfl rfl rfl) (pmk_errN e_BadFormula hr (by omega) (by rfl) (pa_cons (pv 1) pa_nil)))) (pss_nil))
 (pss_cons (ps_if (pt_cmpR op_ne (pe_callB call_len (by rfl) B.len bt_len (pa_cons (pv 2) pa_nil)) (pe_ix ix_kdict (pe_glob (by rfl) Z.g_PARTS_OF (relV_ref _)) (pv 1) (fun _ _ => rfl)) (nomark _)) (pss_one (L2N.ps_raise rfl (L2N.takes_of rfl rfl rfl rfl) (pmk_errN e_BadFormula hr (by omega) (by rfl) (pa_cons (pv 2) pa_nil)))) (pss_nil))
 (pss_cons (ps_for (passes_of rfl) rfl (pi_tup (pv 2)) (pg_name (i := 3) sc_Formula___init__.nd rfl (Or.inl rfl)) (pss_one (ps_if (pt_not (pt_ifE (pt_cmpR op_eq (pv 1) (C8.pe_gc (by rfl) Z.g_ATOM) (nomark _)) (pt_val (pe_c c_is_atom hr (by omega) (by rfl) (pa_cons (pv 3) pa_nil))) (pt_val (pe_callB call_isi (by rfl) B.isinstance bt_isinstance (pa_cons (pv 3) (pa_cons (pe_glob (by rfl) Z.g_Formula (relV_ref _)) pa_nil)))))) (pss_one (L2N.ps_raise rfl (L2N.takes_of rfl rfl rfl rfl) (pmk_errN e_BadFormula hr (by omega) (by rfl) (pa_cons (pv 3) pa_nil)))) (pss_nil))))
 (pss_cons (ps_fld (pv 0) (pv 1) rfl)
 (pss_cons (ps_fld (pv 0) (pv 2) rfl)
 (pss_cons (ps_fld (pv 0) pe_int rfl)
 (pss_cons (ps_fld (pv 0) (pe_callTy call_int1 (by rfl) B.int bt_int (pa_cons (pe_cmpR op_eq (pv 1) (C8.pe_gc (by rfl) Z.g_ALL) (nomark _)) pa_nil)) rfl)
 (pss_cons (ps_asg2 pe_str (pg_fld (pv 0)) (pg_fld (pv 0)))
 (pss_cons (ps_asg (pe_tup (pa_cons (C8.pe_gc (by rfl) Z.g_NO) (pa_cons (pe_tup pa_nil) pa_nil))) (pg_tup (n := 2) rfl (pgs_cons (pg_fld (pv 0)) (pgs_cons (pg_fld (pv 0)) pgs_nil))))
 (pss_one (ps_if (pt_cmpR op_eq (pv 1) (C8.pe_gc (by rfl) Z.g_ATOM) (nomark _)) (pss_one (ps_asg3 (pe_ix ix_tup (pv 2) pe_int (fun _ _ => rfl)) (pg_fld (pv 0)) (pg_fld (pv 0)) (pg_fld (pv 0)))) (pss_one (ps_if (pt_cmpR op_eq (pv 1) (C8.pe_gc (by rfl) Z.g_ALL) (nomark _)) (pss_cons (ps_set (i := 4) sc_Formula___init__.nd rfl (Or.inl rfl) (pe_ix ix_tup (pv 2) pe_int (fun _ _ => rfl)))
 (pss_cons (ps_asg (pe_tup (pa_cons (pe_op op_add pe_int (pe_fld (pv 4) rfl)) (pa_cons (pe_op op_add pe_int (pe_fld (pv 4) rfl)) pa_nil))) (pg_tup (n := 2) rfl (pgs_cons (pg_fld (pv 0)) (pgs_cons (pg_fld (pv 0)) pgs_nil))))
 (pss_cons (ps_asg (pe_tup (pa_cons (pe_fld (pv 4) rfl) (pa_cons (pe_op op_add_str (C8.pe_gc (by rfl) Z.g_ALL_AHEAD) (pe_fld (pv 4) rfl)) pa_nil))) (pg_tup (n := 2) rfl (pgs_cons (pg_fld (pv 0)) (pgs_cons (pg_fld (pv 0)) pgs_nil))))
 (pss_one (ps_fld (pv 0) (pe_c c_merged hr (by omega) (by rfl) (pa_cons (pe_fld (pv 4) rfl) (pa_cons (pe_tup (pa_cons (pv 0) pa_nil)) pa_nil))) rfl))))) (pss_one (ps_if (pt_cmpR op_eq (pv 1) (C8.pe_gc (by rfl) Z.g_IF) (nomark _)) (pss_cons (ps_asg (pv 2) (pg_tup (n := 2) rfl (pgs_cons (pg_name (i := 5) sc_Formula___init__.nd rfl (Or.inl rfl)) (pgs_cons (pg_name (i := 6) sc_Formula___init__.nd rfl (Or.inl rfl)) pgs_nil))))
 (pss_cons (ps_asg (pe_tup (pa_cons (pe_op op_add (pe_op op_add pe_int (pe_fld (pv 5) rfl)) (pe_fld (pv 6) rfl)) (pa_cons (pe_callB (call_max2 rfl) (by rfl) B.max bt_max (pa_cons (pe_fld (pv 5) rfl) (pa_cons (pe_fld (pv 6) rfl) pa_nil))) pa_nil))) (pg_tup (n := 2) rfl (pgs_cons (pg_fld (pv 0)) (pgs_cons (pg_fld (pv 0)) pgs_nil))))
 (pss_cons (ps_fld (pv 0) (pe_c c_united hr (by omega) (by rfl) (pa_cons (pe_fld (pv 5) rfl) (pa_cons (pe_fld (pv 6) rfl) pa_nil))) rfl)
 (pss_cons (ps_fld (pv 0) (pe_c c_united hr (by omega) (by rfl) (pa_cons (pe_fld (pv 5) rfl) (pa_cons (pe_fld (pv 6) rfl) pa_nil))) rfl)
 (pss_cons (ps_fld (pv 0) (pe_c c_merged hr (by omega) (by rfl) (pa_cons (pe_fld (pv 5) rfl) (pa_cons (pe_fld (pv 6) rfl) pa_nil))) rfl)
 (pss_one (ps_fld (pv 0) (pe_joined (PJ.cons pe_str (PJ.cons (pe_fmt (pe_fld (pv 5) rfl)) (PJ.cons (pe_fmt (C8.pe_gc (by rfl) Z.g_BETWEEN)) (PJ.cons (pe_fmt (pe_fld (pv 6) rfl)) (PJ.cons pe_str PJ.nil)))))) rfl))))))) (pss_nil))))))))))))))), ?_⟩, Z.g_Formula⟩
  rintro ds W post ex ⟨x, kd, its, rfl, rfl, hk, hi, k, kx⟩
  try dsimp only [cxOf, Cx.nox, Cx.wish]
  have h16 := sizeLine_eq
  rcases hk with ⟨s, hs, rfl⟩ | ⟨q, ho, hn⟩
  rotate_left
  · walk_at "st"
    refine isi_notStr hn ?_
    refine ⟨_, rfl, if_so rfl (if_so rfl ?_)⟩
    walk_at "st"
    exact fun e _ => kx _ _ (outF_not hn) e
  rcases kinds_cut hs with ⟨hno, hc⟩ | ⟨f0, e0, hc⟩
  · walk_at "st"
    refine bo_knin (kdNo_get Z.noK hno) ?_
    refine ⟨_, rfl, if_so rfl ?_⟩
    walk_at "st"
    exact fun e _ => kx _ _ (by rw [outF_str, hc]) e
  walk_at "st"
  obtain ⟨⟨r0, hk1⟩, hk2⟩ := kd_facts (P := P) Z f0
  rw [← e0] at hk1 hk2
  refine bo_knin hk1 ?_
  refine ⟨_, rfl, if_not rfl ?_⟩
  walk_at "st"
  refine bo_kix hk2 ?_
  walk_at "st"
  by_cases hl : its.length = (partsD f0).length
  rotate_left
  · refine if_so (by rw [List.length_map, decide_eq_false (by omega)]; rfl) ?_
    walk_at "st"
    exact fun e _ => kx _ _ (by rw [outF_str, hc]; exact if_neg hl) e
  refine if_not (by rw [List.length_map, decide_eq_true (by omega)]; rfl) ?_
  walk_at "st"
  refine swx_for (ei_tup ?_)
  walk_at "st"
  refine ⟨fun i G' W' => W' = [(x, .ins 0 [] [])] ∧ (∀ q ∈ its.take i, q.2 = wish02 s) ∧ ∃ o, G' = [some (.adr x), some (.str s), some (.tup (its.map (·.1))), o, none, none, none], ⟨rfl, by simp, _, rfl⟩, ?_, ?_⟩
  · rintro i d G' W' hd ⟨rfl, hb, o, rfl⟩
    rw [List.getElem?_map] at hd
    obtain ⟨p, hp, rfl⟩ := Option.map_eq_some_iff.mp hd
    have hit := hi.2 p (List.mem_of_getElem? hp)
    have hb2 : p.2 = wish02 s → ∀ q ∈ its.take (i + 1), q.2 = wish02 s := fun e q hq => by
      rw [List.take_add_one, hp] at hq
      rcases List.mem_append.mp hq with hq | hq
      · exact hb q hq
      · rw [List.mem_singleton.mp hq]
        exact e
    have hx : p.2 ≠ wish02 s → outF (.str s) its = some ([natD i], p.1) := fun hne => by
      rw [outF_str, hc]
      show (if its.length = _ then (badIx (wish02 s) 0 its).head?.map _ else _) = _
      rw [if_pos hl, badIx_at hp hne hb]
      rfl
    refine tg_name ?_
    walk_at "st"
    refine if_dec (fun e => ?_) (fun e => ?_)
    · have ew : wish02 s = "letter" := if_pos e
      walk_at "st"
      refine hit.isatom ?_
      refine ⟨_, rfl, ?_⟩
      by_cases hw : p.2 = "letter"
      · refine if_not (by rw [decide_eq_true hw]; rfl) ?_
        walk_at "st"
        exact ⟨rfl, hb2 (hw.trans ew.symm), _, rfl⟩
      · refine if_so (by rw [decide_eq_false hw]; rfl) ?_
        walk_at "st"
        exact fun e _ => kx _ _ (hx (by rw [ew]; exact hw)) e
    · have ew : wish02 s = "formula" := if_neg e
      walk_at "st"
      refine hit.isfm Z.z0 Z.q0 ?_
      refine ⟨_, rfl, ?_⟩
      by_cases hw : p.2 = "formula"
      · refine if_not (by rw [decide_eq_true hw]; rfl) ?_
        walk_at "st"
        exact ⟨rfl, hb2 (hw.trans ew.symm), _, rfl⟩
      · refine if_so (by rw [decide_eq_false hw]; rfl) ?_
        walk_at "st"
        exact fun e _ => kx _ _ (hx (by rw [ew]; exact hw)) e
  rintro G' W' ⟨rfl, hb, o, rfl⟩
  rw [List.length_map, List.take_length] at hb
  obtain ⟨f, rfl, e2, hf⟩ := good02 hi.2 hc hl hb
  have hof : outF (.str f.kind) its = none := by
    rw [outF_str, hc]
    show (if its.length = _ then (badIx (wish02 f.kind) 0 its).head?.map _ else _) = _
    rw [if_pos hl, badIx_good hb]
    rfl
  have k := k f hof rfl e2 hf
  rw [e2]
  refine swx_of ?_
  walk_at "st"
  refine rcv_new Z.z0 (by decide +kernel) (by decide +kernel) (by decide) ?_
  walk_at "st"
  refine rcv_new Z.z0 (by decide +kernel) (by decide +kernel) (by decide) ?_
  walk_at "st"
  refine rcv_new Z.z0 (by decide +kernel) (by decide +kernel) (by decide) ?_
  walk_at "st"
  refine rcv_new Z.z0 (by decide +kernel) (by decide +kernel) (by decide) ?_
  walk_at "st"
  refine rcv_new Z.z0 (by decide +kernel) (by decide +kernel) (by decide) ?_
  walk_at "st"
  refine rcv_new Z.z0 (by decide +kernel) (by decide +kernel) (by decide) ?_
  walk_at "st"
  refine rcv_new Z.z0 (by decide +kernel) (by decide +kernel) (by decide) ?_
  walk_at "st"
  refine rcv_new Z.z0 (by decide +kernel) (by decide +kernel) (by decide) ?_
  walk_at "st"
  cases f with
  | «at» c =>
    try refine if_so (show decide (("atom" : Str) = "atom") = true by decide +kernel) ?_
    simp only [partsD]
    walk_at "st"
    refine rcv_at 4 Z.z0 (by decide +kernel) (by decide +kernel) rfl (by decide) ?_
    walk_at "st"
    refine rcv_at 5 Z.z0 (by decide +kernel) (by decide +kernel) rfl (by decide) ?_
    walk_at "st"
    refine rcv_at 6 Z.z0 (by decide +kernel) (by decide +kernel) rfl (by decide) ?_
    exact k [] rfl
  | no =>
    try refine if_not (show decide (("no" : Str) = "atom") = false by decide +kernel) ?_
    walk_at "st"
    try refine if_not (by decide +kernel) ?_
    walk_at "st"
    try refine if_not (by decide +kernel) ?_
    walk_at "st"
    exact k [] rfl
  | all a =>
    try refine if_not (show decide (("all" : Str) = "atom") = false by decide +kernel) ?_
    walk_at "st"
    try refine if_so (show decide (("all" : Str) = "all") = true by decide +kernel) ?_
    simp only [partsD]
    walk_at "st"
    refine rcv_at 2 Z.z0 (by decide +kernel) (by decide +kernel) rfl (by decide) ?_
    walk_at "st"
    refine rcv_at 3 Z.z0 (by decide +kernel) (by decide +kernel) rfl (by decide) ?_
    walk_at "st"
    have hsz := hf.sz
    simp only [Fm.sz] at hsz
    have h16 := sizeLine_eq
    refine bo_addS (by rw [Fm.spell_len]; show 4 + _ ≤ _; omega) ?_
    walk_at "st"
    refine rcv_at 4 Z.z0 (by decide +kernel) (by decide +kernel) rfl (by decide) ?_
    walk_at "st"
    refine rcv_at 6 Z.z0 (by decide +kernel) (by decide +kernel) rfl (by decide) ?_
    walk_at "st"
    refine handA ⟨a.alls.map fun g => (D.fm g, g), [(.adr x, .all a)], by rw [fm_map]; rfl, ?_, ?_, by simp, ?_, ?_⟩
    · intro p hp
      rcases List.mem_append.mp hp with h | h
      · obtain ⟨g, hg, e⟩ := List.mem_map.mp h
        subst e
        exact ⟨(Fm.alls_sub (f := a) hf.a.ok).1 g hg, spl_fm g⟩
      · rw [List.mem_singleton] at h
        subst h
        exact ⟨hf.ok, _, _, .own x 0 _ _ List.mem_cons_self, rfl⟩
    · rw [List.length_map]
      exact hf.a.alls
    · rw [fm_map2]
      exact hf.alls
    · intro e' h1 h2
      rw [fm_map2] at h1
      walk_at "st"
      refine rcv_at 7 Z.z0 (by decide +kernel) (by decide +kernel) rfl (by decide) ?_
      have := allsD_of (x := x) (f := .all a) (e := e') fun p hp => by
        rcases List.mem_append.mp (h2 p hp) with h | h
        · obtain ⟨g, hg, e⟩ := List.mem_map.mp h
          subst e
          exact .inl rfl
        · rw [List.mem_singleton] at h
          subst h
          exact .inr ⟨rfl, rfl⟩
      rw [h1] at this
      exact k _ this
  | imp a b =>
    try refine if_not (show decide (("if" : Str) = "atom") = false by decide +kernel) ?_
    walk_at "st"
    try refine if_not (show decide (("if" : Str) = "all") = false by decide +kernel) ?_
    walk_at "st"
    try refine if_so (show decide (("if" : Str) = "if") = true by decide +kernel) ?_
    simp only [partsD]
    walk_at "st"
    refine rcv_at 2 Z.z0 (by decide +kernel) (by decide +kernel) rfl (by decide) ?_
    walk_at "st"
    refine rcv_at 3 Z.z0 (by decide +kernel) (by decide +kernel) rfl (by decide) ?_
    walk_at "st"
    have la := Fm.atoms_len hf.ok.1
    have lb := Fm.atoms_len hf.ok.2
    have lc := Fm.outer_len hf.ok.1
    have ld := Fm.outer_len hf.ok.2
    refine hand0 ⟨_, _, rfl, by omega, rfl, ?_⟩
    rw [List.nil_append]
    walk_at "st"
    refine rcv_at 4 Z.z0 (by decide +kernel) (by decide +kernel) rfl (by decide) ?_
    walk_at "st"
    refine hand0 ⟨_, _, rfl, by omega, rfl, ?_⟩
    rw [List.nil_append]
    walk_at "st"
    refine rcv_at 5 Z.z0 (by decide +kernel) (by decide +kernel) rfl (by decide) ?_
    walk_at "st"
    refine handA ⟨a.alls.map fun g => (D.fm g, g), b.alls.map fun g => (D.fm g, g), by rw [fm_map, fm_map]; rfl, ?_, ?_, ?_, ?_, ?_⟩
    · intro p hp
      rw [← List.map_append] at hp
      obtain ⟨g, hg, e⟩ := List.mem_map.mp hp
      subst e
      refine ⟨?_, spl_fm g⟩
      rcases List.mem_append.mp hg with h | h
      · exact (Fm.alls_sub hf.l.ok).1 g h
      · exact (Fm.alls_sub hf.r.ok).1 g h
    · rw [List.length_map]
      exact hf.l.alls
    · rw [List.length_map]
      exact hf.r.alls
    · rw [fm_map2, fm_map2]
      exact hf.alls
    · intro e' h1 h2
      rw [fm_map2, fm_map2] at h1
      walk_at "st"
      refine rcv_at 7 Z.z0 (by decide +kernel) (by decide +kernel) rfl (by decide) ?_
      have := allsD_of (x := x) (f := .imp a b) (e := e') fun p hp => by
        have h := h2 p hp
        rw [← List.map_append] at h
        obtain ⟨g, hg, e⟩ := List.mem_map.mp h
        subst e
        exact .inl rfl
      rw [h1] at this
      have k2 := k _ this
      walk_at "st"
      refine ev_joined ?_
      have hsz := hf.sz
      simp only [Fm.sz] at hsz
      have h16 := sizeLine_eq
      have l1 : ("(" : Str).length = 1 := rfl
      have l2 : (" > " : Str).length = 3 := rfl
      have l3 : (")" : Str).length = 1 := rfl
      have l4 := Fm.spell_len a
      have l5 := Fm.spell_len b
      refine ev_c ⟨_, rfl, by rw [empty_app, l1]; omega, ?_⟩
      refine ev_fmt ?_
      walk_at "st"
      refine ⟨by omega, _, rfl, by rw [empty_app, str_app_len]; omega, ?_⟩
      refine ev_fmt ?_
      walk_at "st"
      refine ⟨by rw [empty_app, str_app_len, str_app_len]; omega, ?_⟩
      refine ev_fmt ?_
      walk_at "st"
      refine ⟨by omega, _, rfl, by rw [empty_app, str_app_len, str_app_len, str_app_len]; omega, ?_⟩
      refine ev_c ⟨_, rfl, by rw [empty_app, str_app_len, str_app_len, str_app_len, str_app_len]; omega, ?_⟩
      rw [empty_app]
      refine ev_var rfl ?_
      refine rcv_at 6 Z.z0 (by decide +kernel) (by decide +kernel) rfl (by decide) ?_
      rw [max_int]
      exact k2
end
section
abbrev s_Formula___eq__ : Stmt := inClass (top 17) 6
theorem sc_Formula___eq__ : FnScope ["self", "other"] ["self", "other"] (defScope s_Formula___eq__) := ⟨rfl, rfl, rfl, by decide +kernel, rfl, by decide +kernel, by decide +kernel⟩
theorem o_eq {P : Program} {w : World} {K : PySem.W.Frag} {mg : Str → Option Value} {base : Heap} {cl : Nat → Addr} {f : Addr} {fd : FuncData} (o : Own2 K (cl 0) "__eq__" f) (B : Blt mg) (Z : ZZ K w mg cl) (Fn : Fun K "__eq__" "Formula.__eq__" s_Formula___eq__ f fd) : Opn P w K mg base 1 (cl 0) "__eq__" (spN FK ⟨K, cl⟩ S_eqF02) := by
  have fz := Z.z0
  refine opnD o Fn sc_Formula___eq__ (by intro ds W post h; first | (obtain ⟨rfl, _⟩ := h; rfl) | (obtain ⟨_, rfl, _⟩ := h; rfl) | (obtain ⟨_, _, rfl, _⟩ := h; rfl) | (obtain ⟨_, _, _, rfl, _⟩ := h; rfl) | (obtain ⟨_, _, _, _, rfl, _⟩ := h; rfl) | (obtain ⟨_, _, _, _, _, rfl, _⟩ := h; rfl) | (obtain ⟨_, _, _, _, _, _, rfl, _⟩ := h; rfl) | (obtain ⟨_, _, _, _, _, _, _, rfl, _⟩ := h; rfl) | (obtain ⟨_, _, _, _, _, _, _, _, rfl, _⟩ := h; rfl) | (obtain ⟨_, _, _, _, _, _, _, _, _, rfl, _⟩ := h; rfl) | (obtain ⟨_, _, _, _, _, _, _, _, _, _, rfl, _⟩ := h; rfl) | (obtain ⟨_, _, _, _, _, _, _, _, _, _, _, rfl, _⟩ := h; rfl)) (fun _ _ _ _ _ _ us hl => match us, hl with | [_, _], _ => rfl) fun cdv A outer s H E hr => ⟨_, pss_one (ps_ret (pe_and (pe_callB call_isi (by rfl) B.isinstance bt_isinstance (pa_cons (pv 1) (pa_cons (pe_glob (by rfl) Z.g_Formula (relV_ref _)) pa_nil))) (pe_one (pe_cmpR op_eq (pe_fld (pv 0) rfl) (pe_fld (pv 1) rfl) (nomark _))))), ?_⟩
  rintro ds W post ⟨f, d, rfl, h⟩
  try dsimp only [cxOf, Cx.nox, Cx.wish]
  rcases h with ⟨g, rfl, k⟩ | ⟨hd, k⟩
  · walk_at "st"
    exact k
  · rcases hd with ⟨s, rfl⟩ | hn
    · walk_at "st"
      refine isi_strF Z.z0 ?_
      refine ⟨_, rfl, ?_⟩
      refine if_not rfl ?_
      exact k
    · walk_at "st"
      refine isi_notC Z.q0 hn ?_
      refine ⟨_, rfl, ?_⟩
      refine if_not rfl ?_
      exact k
abbrev s_atom : Stmt := top 22
theorem sc_atom : FnScope ["letter"] ["letter"] (defScope s_atom) := ⟨rfl, rfl, rfl, by decide +kernel, rfl, by decide +kernel, by decide +kernel⟩
theorem cx_atom {P : Program} {w : World} {K : PySem.W.Frag} {mg : Str → Option Value} {base : Heap} {cl : Nat → Addr} {f : Addr} {fd : FuncData} (hm : mg "atom" = some (.ref f)) (B : Blt mg) (Z : ZZ K w mg cl) (Fn : Fun K "atom" "atom" s_atom f fd)
    (c_is_atom : Cal P w K mg base 1 "is_atom" (spN FK ⟨K, cl⟩ S_isatomV) [])
    (m_Formula : MakR P w K mg base 2 "Formula" (cl 0) (spN FK ⟨K, cl⟩ (starS 2 S_init)))
    (e_BadFormula : ErrU P w K mg base 1 "BadFormula" (cl 11) "value") : CalXN P w K mg base 5 "atom" (spX FK ⟨K, cl⟩ (S_atomX02)) := by
  have fz := Z.z0
  refine calXND hm Fn sc_atom (by intro ds W post ex h; first | (obtain ⟨rfl, _⟩ := h; rfl) | (obtain ⟨_, rfl, _⟩ := h; rfl) | (obtain ⟨_, _, rfl, _⟩ := h; rfl) | (obtain ⟨_, _, _, rfl, _⟩ := h; rfl) | (obtain ⟨_, _, _, _, rfl, _⟩ := h; rfl) | (obtain ⟨_, _, _, _, _, rfl, _⟩ := h; rfl) | (obtain ⟨_, _, _, _, _, _, rfl, _⟩ := h; rfl) | (obtain ⟨_, _, _, _, _, _, _, rfl, _⟩ := h; rfl) | (obtain ⟨_, _, _, _, _, _, _, _, rfl, _⟩ := h; rfl) | (obtain ⟨_, _, _, _, _, _, _, _, _, rfl, _⟩ := h; rfl) | (obtain ⟨_, _, _, _, _, _, _, _, _, _, rfl, _⟩ := h; rfl) | (obtain ⟨_, _, _, _, _, _, _, _, _, _, _, rfl, _⟩ := h; rfl)) (fun _ _ _ _ _ _ us hl => match us, hl with | [_], _ => rfl)  fun cdv A outer s H E hr => ⟨_, pss_cons (ps_if (pt_not (pt_val (pe_c c_is_atom hr (by omega) (by rfl) (pa_cons (pv 0) pa_nil)))) (pss_one (L2N.ps_raise rfl (L2N.takes_of rfl rfl rfl rfl) (pmk_errN e_BadFormula hr (by omega) (by rfl) (pa_cons (pv 0) pa_nil)))) (pss_nil))
 (pss_one (ps_ret (pe_mkR m_Formula hr (by omega) (by rfl) (pa_cons (C8.pe_gc (by rfl) Z.g_ATOM) (pa_cons (pv 0) pa_nil))))), ?_⟩
  rintro ds W post ex ⟨d, rfl, rfl, ⟨c, hc, rfl, k⟩ | ⟨q, ho, k⟩⟩
  try dsimp only [cxOf, Cx.nox, Cx.wish]
  · walk_at "st"
    refine (It02.lt c hc).isatom ?_
    refine ⟨_, rfl, if_not (by decide +kernel) ?_⟩
    walk_at "st"
    exact ⟨.at c, rfl, ⟨hc, Nat.le_of_ble_eq_true rfl, Nat.lt_of_lt_of_le Nat.zero_lt_one (Nat.le_of_ble_eq_true rfl)⟩, k⟩
  · walk_at "st"
    refine (It02.odd d q ho).isatom ?_
    refine ⟨_, rfl, if_so (by decide +kernel) ?_⟩
    walk_at "st"
    exact fun e _ => k e
theorem c_atom {P : Program} {w : World} {K : PySem.W.Frag} {mg : Str → Option Value} {base : Heap} {cl : Nat → Addr} {f : Addr} {fd : FuncData} (hm : mg "atom" = some (.ref f)) (B : Blt mg) (Z : ZZ K w mg cl) (Fn : Fun K "atom" "atom" s_atom f fd)
    (c_is_atom : Cal P w K mg base 1 "is_atom" (spN FK ⟨K, cl⟩ S_isatomV) [])
    (m_Formula : MakR P w K mg base 2 "Formula" (cl 0) (spN FK ⟨K, cl⟩ (starS 2 S_init))) : Cal P w K mg base 5 "atom" (spN FK ⟨K, cl⟩ S_atom) [] ∧ CalK P w K mg base 5 "atom" ["letter"] (fun _ zs => zs) (spN FK ⟨K, cl⟩ S_atom) := by
  have fz := Z.z0
  refine calDK hm Fn sc_atom (by intro ds W post h; first | (obtain ⟨rfl, _⟩ := h; rfl) | (obtain ⟨_, rfl, _⟩ := h; rfl) | (obtain ⟨_, _, rfl, _⟩ := h; rfl) | (obtain ⟨_, _, _, rfl, _⟩ := h; rfl) | (obtain ⟨_, _, _, _, rfl, _⟩ := h; rfl) | (obtain ⟨_, _, _, _, _, rfl, _⟩ := h; rfl) | (obtain ⟨_, _, _, _, _, _, rfl, _⟩ := h; rfl) | (obtain ⟨_, _, _, _, _, _, _, rfl, _⟩ := h; rfl) | (obtain ⟨_, _, _, _, _, _, _, _, rfl, _⟩ := h; rfl) | (obtain ⟨_, _, _, _, _, _, _, _, _, rfl, _⟩ := h; rfl) | (obtain ⟨_, _, _, _, _, _, _, _, _, _, rfl, _⟩ := h; rfl) | (obtain ⟨_, _, _, _, _, _, _, _, _, _, _, rfl, _⟩ := h; rfl)) (fun _ _ _ _ _ _ us hl => match us, hl with | [_], _ => rfl) (kb_of (g := (fun _ ws => ws)) Fn (fun _ _ _ _ _ _ us hl => match us, hl with | [_], _ => rfl) (fun _ h2 => by first | exact h2 | exact h2.reverse)) fun cdv A outer s H E hr => ⟨_, pss_cons (ps_if (pt_not (pt_val (pe_c c_is_atom hr (by omega) (by rfl) (pa_cons (pv 0) pa_nil)))) (pss_one (ps_never)) (pss_nil))
 (pss_one (ps_ret (pe_mkR m_Formula hr (by omega) (by rfl) (pa_cons (C8.pe_gc (by rfl) Z.g_ATOM) (pa_cons (pv 0) pa_nil))))), ?_⟩
  rintro ds W post ⟨c, rfl, rfl, hc, k⟩
  try dsimp only [cxOf, Cx.nox, Cx.wish]
  walk_at "st"
  refine hand0 ⟨_, rfl, rfl, .inl ⟨_, rfl, Nat.le_of_ble_eq_true rfl, ?_⟩⟩
  try simp only [List.nil_append]
  try walk_at "st"
  have hcL : (65 ≤ c ∧ c ≤ 90) ∨ (97 ≤ c ∧ c ≤ 122) := hc
  rw [isLet_sg, decide_eq_true hcL]
  refine if_not rfl ?_
  walk_at "st"
  exact ⟨.at c, rfl, ⟨hc, Nat.le_of_ble_eq_true rfl, Nat.lt_of_lt_of_le Nat.zero_lt_one (Nat.le_of_ble_eq_true rfl)⟩, k⟩
abbrev s_Formula___str__ : Stmt := inClass (top 17) 7
theorem sc_Formula___str__ : FnScope ["self"] ["self"] (defScope s_Formula___str__) := ⟨rfl, rfl, rfl, by decide +kernel, rfl, by decide +kernel, by decide +kernel⟩
theorem o_str {P : Program} {w : World} {K : PySem.W.Frag} {mg : Str → Option Value} {base : Heap} {cl : Nat → Addr} {f : Addr} {fd : FuncData} (o : Own2 K (cl 0) "__str__" f) (B : Blt mg) (Z : ZZ K w mg cl) (Fn : Fun K "__str__" "Formula.__str__" s_Formula___str__ f fd) : Opn P w K mg base 1 (cl 0) "__str__" (spN FK ⟨K, cl⟩ S_str) := by
  have fz := Z.z0
  refine opnD o Fn sc_Formula___str__ (by intro ds W post h; first | (obtain ⟨rfl, _⟩ := h; rfl) | (obtain ⟨_, rfl, _⟩ := h; rfl) | (obtain ⟨_, _, rfl, _⟩ := h; rfl) | (obtain ⟨_, _, _, rfl, _⟩ := h; rfl) | (obtain ⟨_, _, _, _, rfl, _⟩ := h; rfl) | (obtain ⟨_, _, _, _, _, rfl, _⟩ := h; rfl) | (obtain ⟨_, _, _, _, _, _, rfl, _⟩ := h; rfl) | (obtain ⟨_, _, _, _, _, _, _, rfl, _⟩ := h; rfl) | (obtain ⟨_, _, _, _, _, _, _, _, rfl, _⟩ := h; rfl) | (obtain ⟨_, _, _, _, _, _, _, _, _, rfl, _⟩ := h; rfl) | (obtain ⟨_, _, _, _, _, _, _, _, _, _, rfl, _⟩ := h; rfl) | (obtain ⟨_, _, _, _, _, _, _, _, _, _, _, rfl, _⟩ := h; rfl)) (fun _ _ _ _ _ _ us hl => match us, hl with | [_], _ => rfl) fun cdv A outer s H E hr => ⟨_, pss_one (ps_ret (pe_callTy SkE.call_str_str (by rfl) B.str bt_str (pa_cons (pe_fld (pv 0) rfl) pa_nil))), ?_⟩
  rintro ds W post ⟨f, rfl, rfl, k⟩
  try dsimp only [cxOf, Cx.nox, Cx.wish]
  walk_at "st"
  refine ca_strS ?_
  exact k
end
section
abbrev s_law_deck : Stmt := top 29
theorem sc_law_deck : FnScope ["_law_script", "_law_mixed", "_law_cell"] ["_law_script"] (defScope s_law_deck) := ⟨rfl, rfl, rfl, by decide +kernel, rfl, by decide +kernel, by decide +kernel⟩
theorem c_law_deck {P : Program} {w : World} {K : PySem.W.Frag} {mg : Str → Option Value} {base : Heap} {cl : Nat → Addr} {f : Addr} {fd : FuncData} (hm : mg "_law_deck" = some (.ref f)) (B : Blt mg) (Z : ZZ K w mg cl) (Fn : Fun K "_law_deck" "_law_deck" s_law_deck f fd) : Cal P w K mg base 1 "_law_deck" (spN FK ⟨K, cl⟩ (S_deck DkA)) [] := by
  have fz := Z.z0
  refine calD hm Fn sc_law_deck (by intro ds W post h; first | (obtain ⟨rfl, _⟩ := h; rfl) | (obtain ⟨_, rfl, _⟩ := h; rfl) | (obtain ⟨_, _, rfl, _⟩ := h; rfl) | (obtain ⟨_, _, _, rfl, _⟩ := h; rfl) | (obtain ⟨_, _, _, _, rfl, _⟩ := h; rfl) | (obtain ⟨_, _, _, _, _, rfl, _⟩ := h; rfl) | (obtain ⟨_, _, _, _, _, _, rfl, _⟩ := h; rfl) | (obtain ⟨_, _, _, _, _, _, _, rfl, _⟩ := h; rfl) | (obtain ⟨_, _, _, _, _, _, _, _, rfl, _⟩ := h; rfl) | (obtain ⟨_, _, _, _, _, _, _, _, _, rfl, _⟩ := h; rfl) | (obtain ⟨_, _, _, _, _, _, _, _, _, _, rfl, _⟩ := h; rfl) | (obtain ⟨_, _, _, _, _, _, _, _, _, _, _, rfl, _⟩ := h; rfl)) (fun _ _ _ _ _ _ us hl => match us, hl with | [_], _ => rfl) fun cdv A outer s H E hr => ⟨_, pss_cons (ps_set (i := 1) sc_law_deck.nd rfl (Or.inl rfl) pe_int)
 (pss_cons (ps_for PassesOwn.never rfl (pi_list (pe_slice sl_list (pv 0) po_none (po_some pe_int))) (pg_name (i := 2) sc_law_deck.nd rfl (Or.inl rfl)) (pss_one (ps_set (i := 1) sc_law_deck.nd rfl (Or.inl rfl) (pe_op op_mod (pe_callTy call_int1 (by rfl) B.int bt_int (pa_cons (pe_op op_add (pe_op op_add (pe_op op_mul (pv 1) pe_int) (pe_op op_mod (pe_callTy call_int1 (by rfl) B.int bt_int (pa_cons (pv 2) pa_nil)) pe_int)) pe_int) pa_nil)) pe_int))))
 (pss_one (ps_ret (pe_disp (pps_cons pe_str (pe_revL (pe_lc (own := [("_law_cell", 2)]) (by rfl) sc_law_deck.nd (pi_list (pe_slice sl_list (pv 0) po_none (po_some pe_int))) (blkOk_by (own := [("_law_cell", 2)]) (N := ["_law_script", "_law_mixed", "_law_cell"]) (sc := defScope s_law_deck) (by decide +kernel)) (fun _ _ _ _ _ => (pg_name (i := 2) sc_law_deck.nd rfl (Or.inl rfl))) (fun _ _ _ _ _ => pts_one (pt_cmpR op_ge (pv 2) (pe_op op_pow pe_int pe_int) (nomark _))) (fun _ _ _ _ _ => (pv 2)))) (pps_cons pe_str (pv 1) (pps_cons pe_str pe_int pps_nil))) (by rfl) (by rfl) (fun z => by cases z) (by decide))))), ?_⟩
  rintro ds W post ⟨ns, rfl, rfl, hl, k⟩
  try dsimp only [cxOf, Cx.nox, Cx.wish]
  have hc : cutD ((ns.map V.int).map D.vl) none (some 63) = ns.map D.int := (cut63 (by simpa using hl)).trans (by rw [List.map_map]; rfl)
  walk_at "st"
  refine sw_for (ei_list ?_)
  walk_at "st"
  rw [hc]
  refine ⟨fun i G W => W = [] ∧ ∃ (st : Int) (o : Option D), 0 ≤ st ∧ st < 2147483648 ∧ G = [some (.scr (ns.map V.int)), some (.int st), o], ⟨rfl, _, _, by omega, by omega, rfl⟩, ?_, ?_⟩
  · rintro i d G' W' hd ⟨rfl, st, o, h0, h1, rfl⟩
    rw [List.getElem?_map] at hd
    obtain ⟨z, hz, e⟩ := Option.map_eq_some_iff.mp hd
    subst e
    refine tg_name ?_
    walk_at "st"
    exact ⟨rfl, _, _, Int.emod_nonneg _ (by omega), Int.lt_of_lt_of_le (Int.emod_lt_of_pos _ (by omega)) (by omega), rfl⟩
  · rintro G' W' ⟨rfl, st, o, h0, h1, rfl⟩
    refine sw_ret (ev_disp (eps_cons (ev_c (ev_revL (ev_lcF (ei_list ?_))))))
    walk_at "st"
    rw [hc]
    refine ⟨fun i acc W => W = [] ∧ ∃ cells : List Int, acc = cells.map D.int ∧ cells.length ≤ i, ⟨rfl, [], rfl, Nat.le_refl _⟩, ?_, ?_⟩
    · rintro i d acc W' hd ⟨rfl, cells, rfl, hz⟩
      have hi : i < (ns.map D.int).length := (List.getElem?_eq_some_iff.mp hd).1
      rw [List.getElem?_map] at hd
      obtain ⟨z, hz2, e⟩ := Option.map_eq_some_iff.mp hd
      subst e
      refine tw_name (by simp) ?_
      walk_at "st"
      refine if_bl (fun e => ?_) (fun e => ?_)
      · walk_at "st"
        refine ⟨by have := sizeLine_eq; simp at hi ⊢; omega, rfl, cells ++ [z], by simp, by simp; omega⟩
      · exact ⟨rfl, cells, rfl, by omega⟩
    · rintro acc W' ⟨rfl, cells, rfl, hz⟩
      refine ⟨_, .inl (.inl rfl), fun p hp => ?_⟩
      walk_at "st"
      refine ⟨by simp, fun p2 hp2 => ?_⟩
      rw [mergeG_nd (by simp only [List.map_cons, List.map_nil, List.nil_append, List.cons_append]; decide +kernel)]
      refine k p2 _ ⟨p, cells.reverse, st, 0, ?_, ?_, by omega, by omega⟩
      · unfold dkA
        rw [List.map_reverse]
        rfl
      · simp at hz ⊢
        omega
abbrev s_law_draw : Stmt := top 30
theorem sc_law_draw : FnScope ["_law_deck_here", "_law_many", "_law_cell", "_law_lap", "_law_mixed"] ["_law_deck_here", "_law_many"] (defScope s_law_draw) := ⟨rfl, rfl, rfl, by decide +kernel, rfl, by decide +kernel, by decide +kernel⟩
theorem c_law_draw {P : Program} {w : World} {K : PySem.W.Frag} {mg : Str → Option Value} {base : Heap} {cl : Nat → Addr} {f : Addr} {fd : FuncData} (hm : mg "_law_draw" = some (.ref f)) (B : Blt mg) (Z : ZZ K w mg cl) (Fn : Fun K "_law_draw" "_law_draw" s_law_draw f fd) : Cal P w K mg base 1 "_law_draw" (spN FK ⟨K, cl⟩ (S_draw DkA)) [] := by
  have fz := Z.z0
  refine calD hm Fn sc_law_draw (by intro ds W post h; first | (obtain ⟨rfl, _⟩ := h; rfl) | (obtain ⟨_, rfl, _⟩ := h; rfl) | (obtain ⟨_, _, rfl, _⟩ := h; rfl) | (obtain ⟨_, _, _, rfl, _⟩ := h; rfl) | (obtain ⟨_, _, _, _, rfl, _⟩ := h; rfl) | (obtain ⟨_, _, _, _, _, rfl, _⟩ := h; rfl) | (obtain ⟨_, _, _, _, _, _, rfl, _⟩ := h; rfl) | (obtain ⟨_, _, _, _, _, _, _, rfl, _⟩ := h; rfl) | (obtain ⟨_, _, _, _, _, _, _, _, rfl, _⟩ := h; rfl) | (obtain ⟨_, _, _, _, _, _, _, _, _, rfl, _⟩ := h; rfl) | (obtain ⟨_, _, _, _, _, _, _, _, _, _, rfl, _⟩ := h; rfl) | (obtain ⟨_, _, _, _, _, _, _, _, _, _, _, rfl, _⟩ := h; rfl)) (fun _ _ _ _ _ _ us hl => match us, hl with | [_, _], _ => rfl) fun cdv A outer s H E hr => ⟨_, pss_cons (ps_if (pt_cmpR (op_neD hr.units) (pe_dget (by exact hu_of hr) (pv 0) pe_str (fun _ _ => rfl)) (pe_lst pa_nil) (nomark _)) (pss_cons (ps_set (i := 2) sc_law_draw.nd rfl (Or.inl rfl) (pe_callTy call_int1 (by rfl) B.int bt_int (pa_cons (pe_bm0 PySem.F.plainAttrs_list PySem.F.slot_list_pop PySem.F.type_list_pop mt_pop (pe_dget (by exact hu_of hr) (pv 0) pe_str (fun _ _ => rfl))) pa_nil)))
 (pss_cons (ps_if (pt_cmpR op_ge (pv 2) (pv 1) (nomark _)) (pss_one (ps_expr (pe_bm PySem.F.plainAttrs_list PySem.F.slot_list_append PySem.F.type_list_append mt_append (pe_dget (by exact hu_of hr) (pv 0) pe_str (fun _ _ => rfl)) (pa_cons (pe_op op_fdiv (pv 2) (pv 1)) pa_nil)))) (pss_nil))
 (pss_one (ps_ret (pe_op op_mod (pv 2) (pv 1)))))) (pss_nil))
 (pss_cons (ps_set (i := 3) sc_law_draw.nd rfl (Or.inl rfl) (pe_op op_add (pe_dget (by exact hu_of hr) (pv 0) pe_str (fun _ _ => rfl)) pe_int))
 (pss_cons (ps_dput (by exact hu_of hr) (pv 0) pe_str (pv 3) rfl)
 (pss_cons (ps_set (i := 4) sc_law_draw.nd rfl (Or.inl rfl) (pe_op op_mod (pe_callTy call_int1 (by rfl) B.int bt_int (pa_cons (pe_op op_mul (pe_callTy call_int1 (by rfl) B.int bt_int (pa_cons (pe_op op_add (pe_op op_add (pe_dget (by exact hu_of hr) (pv 0) pe_str (fun _ _ => rfl)) (pe_op op_mul (pe_op op_mul pe_int (pv 3)) (pv 3))) pe_int) pa_nil)) pe_int) pa_nil)) pe_int))
 (pss_cons (ps_set (i := 4) sc_law_draw.nd rfl (Or.inl rfl) (pe_op op_mod (pe_callTy call_int1 (by rfl) B.int bt_int (pa_cons (pe_op op_add (pe_op op_mul (pv 4) (pv 4)) (pe_op op_mul pe_int (pv 3))) pa_nil)) pe_int))
 (pss_one (ps_ret (pe_op op_mod (pe_op op_fdiv (pe_op op_mod (pe_callTy call_int1 (by rfl) B.int bt_int (pa_cons (pe_op op_mul (pv 4) pe_int) pa_nil)) pe_int) pe_int) (pv 1)))))))), ?_⟩
  rintro ds W post ⟨a, c, n, rfl, ⟨l, cells, s, m, rfl, hl, c0, c2⟩, n0, n1, c1, k⟩
  try dsimp only [cxOf, Cx.nox, Cx.wish]
  walk_at "st"
  refine bo_neD (vp_ints (.inr ⟨_, rfl, List.mem_cons_of_mem _ List.mem_cons_self⟩)) vp_nil (shaped_ints cells) rfl ⟨_, rfl, ?_⟩
  rw [eqv_nil]
  have h16 := sizeLine_eq
  rcases List.eq_nil_or_concat cells with e | ⟨init, x, e⟩
  · subst e
    refine if_not rfl ?_
    walk_at "st"
    refine ⟨a, _, Sum.inr _, [], _, rfl, rfl, rfl, by simp; omega, ?_⟩
    rw [putG_set (i := 2) (by simp only [List.map_cons, List.map_nil]; decide +kernel) rfl]
    walk_at "st"
    refine k _ _ (Int.emod_nonneg _ (by omega)) (Int.emod_lt_of_pos _ n0) ⟨l, [], s, m + 1, rfl, by simp, by omega, by omega⟩
  · subst e
    refine if_so (by simp) ?_
    refine sw_seq (sw_set (ev_cb (ea_cons (ev_pop ?_))))
    walk_at "st"
    refine ⟨l, init.map D.int, [(a, .dp [(kS "great", .adr l), (kS "mixed", .int s), (kS "lap", .int m)])], [], .int x, rfl, by simp, ?_⟩
    walk_at "st"
    refine if_dec (fun hx => ?_) (fun hx => ?_)
    · refine sw_drop (ev_append ?_)
      walk_at "st"
      refine ⟨l, init.map D.int, [_], [], rfl, rfl, ?_⟩
      walk_at "st"
      refine ⟨init.map D.int, [_], [], _, rfl, rfl, ?_, ?_⟩
      · simp at hl ⊢
        omega
      walk_at "st"
      have := k (x % n) (dkA a l (init ++ [x / n]) s m) (Int.emod_nonneg _ (by omega)) (Int.emod_lt_of_pos _ n0) ⟨l, init ++ [x / n], s, m, rfl, by simp at hl ⊢; omega, c0, by omega⟩
      rw [dkA, List.map_append] at this
      exact this
    · walk_at "st"
      exact k (x % n) (dkA a l init s m) (Int.emod_nonneg _ (by omega)) (Int.emod_lt_of_pos _ n0) ⟨l, init, s, m, rfl, by simp at hl ⊢; omega, c0, by omega⟩
abbrev s_law_pick : Stmt := top 31
theorem sc_law_pick : FnScope ["_law_deck_here", "_law_menu"] ["_law_deck_here", "_law_menu"] (defScope s_law_pick) := ⟨rfl, rfl, rfl, by decide +kernel, rfl, by decide +kernel, by decide +kernel⟩
theorem c_law_pick {P : Program} {w : World} {K : PySem.W.Frag} {mg : Str → Option Value} {base : Heap} {cl : Nat → Addr} {f : Addr} {fd : FuncData} (hm : mg "_law_pick" = some (.ref f)) (B : Blt mg) (Z : ZZ K w mg cl) (Fn : Fun K "_law_pick" "_law_pick" s_law_pick f fd)
    (c_law_draw : Cal P w K mg base 1 "_law_draw" (spN FK ⟨K, cl⟩ (S_draw DkA)) []) : Cal P w K mg base 2 "_law_pick" (spN FK ⟨K, cl⟩ (S_pick DkA)) [] := by
  have fz := Z.z0
  refine calD hm Fn sc_law_pick (by intro ds W post h; first | (obtain ⟨rfl, _⟩ := h; rfl) | (obtain ⟨_, rfl, _⟩ := h; rfl) | (obtain ⟨_, _, rfl, _⟩ := h; rfl) | (obtain ⟨_, _, _, rfl, _⟩ := h; rfl) | (obtain ⟨_, _, _, _, rfl, _⟩ := h; rfl) | (obtain ⟨_, _, _, _, _, rfl, _⟩ := h; rfl) | (obtain ⟨_, _, _, _, _, _, rfl, _⟩ := h; rfl) | (obtain ⟨_, _, _, _, _, _, _, rfl, _⟩ := h; rfl) | (obtain ⟨_, _, _, _, _, _, _, _, rfl, _⟩ := h; rfl) | (obtain ⟨_, _, _, _, _, _, _, _, _, rfl, _⟩ := h; rfl) | (obtain ⟨_, _, _, _, _, _, _, _, _, _, rfl, _⟩ := h; rfl) | (obtain ⟨_, _, _, _, _, _, _, _, _, _, _, rfl, _⟩ := h; rfl)) (fun _ _ _ _ _ _ us hl => match us, hl with | [_, _], _ => rfl) fun cdv A outer s H E hr => ⟨_, pss_one (ps_ret (pe_ix ix_seq (pv 1) (pe_c c_law_draw hr (by omega) (by rfl) (pa_cons (pv 0) (pa_cons (pe_callB call_len (by rfl) B.len bt_len (pa_cons (pv 1) pa_nil)) pa_nil))) (fun _ _ => rfl))), ?_⟩
  rintro ds W post ⟨a, c, m, rfl, hd, hc, h⟩
  try dsimp only [cxOf, Cx.nox, Cx.wish]
  rcases h with ⟨l, hm, hne, hl, h⟩ | ⟨x, rfl, hne, hl, h⟩
  · have hv : Vs W m l := hm.elim (fun e => .inl (.inl (.inl e))) .inr
    walk_at "st"
    refine ca_len hv ?_
    have : 0 < l.length := List.length_pos_iff.mpr hne
    walk_at "st"
    refine handA ⟨a, c, _, rfl, hd, by omega, by omega, hc, fun z W' h0 h1 hd' => ?_⟩
    try walk_at "st"
    obtain ⟨y, hy, e⟩ := at_of_draw (l := l) h0 h1
    have hv' : Vs W' m l := hm.elim (fun e => .inl (.inl (.inl e))) .inr
    exact bo_ixSq hv' e (h y hy W' hd')
  · have h16 := sizeLine_eq
    walk_at "st"
    refine ca_lenS (by omega) ?_
    walk_at "st"
    refine handA ⟨a, c, _, rfl, hd, by omega, by omega, hc, fun z W' h0 h1 hd' => ?_⟩
    try walk_at "st"
    obtain ⟨y, hy, e⟩ := at_of_draw (l := lets x) h0 (by rw [← str_len]; exact h1)
    exact bo_ixSqS (by omega) e (h y hy W' hd')
end
section
abbrev s_law_form : Stmt := top 32
theorem sc_law_form : FnScope ["_law_deck_here", "_law_pool", "_law_deep", "_law_way", "_law_first"] ["_law_deck_here", "_law_pool", "_law_deep"] (defScope s_law_form) := ⟨rfl, rfl, rfl, by decide +kernel, rfl, by decide +kernel, by decide +kernel⟩
theorem c_law_form {P : Program} {w : World} {K : PySem.W.Frag} {mg : Str → Option Value} {base : Heap} {cl : Nat → Addr} {f : Addr} {fd : FuncData} (hm : mg "_law_form" = some (.ref f)) (B : Blt mg) (Z : ZZ K w mg cl) (Fn : Fun K "_law_form" "_law_form" s_law_form f fd)
    (c_law_draw : Cal P w K mg base 1 "_law_draw" (spN FK ⟨K, cl⟩ (S_draw DkA)) [])
    (c_law_pick : Cal P w K mg base 2 "_law_pick" (spN FK ⟨K, cl⟩ (S_pick DkA)) []) : ∀ j, Cal P w K mg base (3 + j) "_law_form" (spN FK ⟨K, cl⟩ ((S_form DkA) j)) [] := by
  have fz := Z.z0
  intro j
  induction j with
  | zero => exact calD (k := 2) hm Fn sc_law_form (by intro ds W post h; first | (obtain ⟨rfl, _⟩ := h; rfl) | (obtain ⟨_, rfl, _⟩ := h; rfl) | (obtain ⟨_, _, rfl, _⟩ := h; rfl) | (obtain ⟨_, _, _, rfl, _⟩ := h; rfl) | (obtain ⟨_, _, _, _, rfl, _⟩ := h; rfl) | (obtain ⟨_, _, _, _, _, rfl, _⟩ := h; rfl) | (obtain ⟨_, _, _, _, _, _, rfl, _⟩ := h; rfl) | (obtain ⟨_, _, _, _, _, _, _, rfl, _⟩ := h; rfl) | (obtain ⟨_, _, _, _, _, _, _, _, rfl, _⟩ := h; rfl) | (obtain ⟨_, _, _, _, _, _, _, _, _, rfl, _⟩ := h; rfl) | (obtain ⟨_, _, _, _, _, _, _, _, _, _, rfl, _⟩ := h; rfl) | (obtain ⟨_, _, _, _, _, _, _, _, _, _, _, rfl, _⟩ := h; rfl)) (fun _ _ _ _ _ _ us hl => match us, hl with | [_, _, _], _ => rfl) fun cdv A outer s H E hr => ⟨_, pss_never, fun ds W post ⟨a, c, p, n, _, _, h, _⟩ => absurd h (Nat.not_lt_zero _)⟩
  | succ j c_law_form =>
    refine calD (k := 3 + j) hm Fn sc_law_form (by intro ds W post h; first | (obtain ⟨rfl, _⟩ := h; rfl) | (obtain ⟨_, rfl, _⟩ := h; rfl) | (obtain ⟨_, _, rfl, _⟩ := h; rfl) | (obtain ⟨_, _, _, rfl, _⟩ := h; rfl) | (obtain ⟨_, _, _, _, rfl, _⟩ := h; rfl) | (obtain ⟨_, _, _, _, _, rfl, _⟩ := h; rfl) | (obtain ⟨_, _, _, _, _, _, rfl, _⟩ := h; rfl) | (obtain ⟨_, _, _, _, _, _, _, rfl, _⟩ := h; rfl) | (obtain ⟨_, _, _, _, _, _, _, _, rfl, _⟩ := h; rfl) | (obtain ⟨_, _, _, _, _, _, _, _, _, rfl, _⟩ := h; rfl) | (obtain ⟨_, _, _, _, _, _, _, _, _, _, rfl, _⟩ := h; rfl) | (obtain ⟨_, _, _, _, _, _, _, _, _, _, _, rfl, _⟩ := h; rfl)) (fun _ _ _ _ _ _ us hl => match us, hl with | [_, _, _], _ => rfl) fun cdv A outer s H E hr => ⟨_, pss_cons (ps_set (i := 3) sc_law_form.nd rfl (Or.inl rfl) (pe_ifExp (pt_cmpR op_gt (pv 2) pe_int (nomark _)) (pe_c c_law_draw hr (by omega) (by rfl) (pa_cons (pv 0) (pa_cons pe_int pa_nil))) pe_int))
 (pss_cons (ps_if (pt_cmpR op_lt (pv 3) pe_int (nomark _)) (pss_one (ps_ret (pe_tup (pa_cons pe_str (pa_cons (pe_c c_law_form hr (by omega) (by rfl) (pa_cons (pv 0) (pa_cons (pv 1) (pa_cons (pe_op op_sub (pv 2) pe_int) pa_nil)))) pa_nil))))) (pss_nil))
 (pss_cons (ps_if (pt_cmpR op_lt (pv 3) pe_int (nomark _)) (pss_cons (ps_set (i := 4) sc_law_form.nd rfl (Or.inl rfl) (pe_c c_law_form hr (by omega) (by rfl) (pa_cons (pv 0) (pa_cons (pv 1) (pa_cons (pe_op op_sub (pv 2) pe_int) pa_nil)))))
 (pss_one (ps_ret (pe_tup (pa_cons pe_str (pa_cons (pv 4) (pa_cons (pe_c c_law_form hr (by omega) (by rfl) (pa_cons (pv 0) (pa_cons (pv 1) (pa_cons (pe_op op_sub (pv 2) pe_int) pa_nil)))) pa_nil))))))) (pss_nil))
 (pss_one (ps_ret (pe_ifExp (pt_cmpR op_eq (pe_c c_law_draw hr (by omega) (by rfl) (pa_cons (pv 0) (pa_cons pe_int pa_nil))) pe_int (nomark _)) (pe_tup (pa_cons pe_str pa_nil)) (pe_tup (pa_cons pe_str (pa_cons (pe_c c_law_pick hr (by omega) (by rfl) (pa_cons (pv 0) (pa_cons (pv 1) pa_nil))) pa_nil)))))))), ?_⟩
    rintro ds W post ⟨a, c, p, n, rfl, hd, hj, hj2, hp, hp0, hp1, hc, k⟩
    try dsimp only [cxOf, Cx.nox, Cx.wish]
    have h2 := pow_le19 (n := n) (by omega)
    have h3 := pow_pos' n
    refine sw_seq (sw_set (Ev.imp (R := fun d W' => ∃ z : Int, d = .int z ∧ 0 ≤ z ∧ z < 7 ∧ (n = 0 → z = 6) ∧ DkA a (c + if n = 0 then 0 else 1) W') ?_ ?_))
    · walk_at "st"
      refine if_dec (fun h => ?_) (fun h => ?_)
      · walk_at "st"
        refine handA ⟨a, c, 7, rfl, hd, by omega, by omega, by omega, fun z W' h0 h1 hd' => ⟨z, rfl, h0, h1, by omega, by rw [if_neg (by omega)]; exact hd'⟩⟩
        try walk_at "st"
      · walk_at "st"
        exact ⟨by omega, by omega, by omega, by rw [if_pos (by omega), Int.add_zero]; exact hd⟩
    rintro d W1 ⟨z, rfl, z0, z1, z6, hd1⟩
    walk_at "st"
    refine if_dec (fun h => ?_) (fun h => ?_)
    · obtain ⟨m, rfl⟩ : ∃ m, n = m + 1 := ⟨n - 1, by omega⟩
      rw [if_neg (by omega)] at hd1
      have e2 : (2 : Int) ^ (m + 1) = 2 * 2 ^ m := by rw [Int.pow_succ, Int.mul_comm]
      walk_at "st"
      have h4 := pow_pos' m
      rw [str_nat]
      refine handA ⟨a, c + 1, p, m, rfl, hd1, by omega, by omega, hp, hp0, hp1, by omega, fun f W2 h1 h2 h3 => ?_⟩
      try walk_at "st"
      exact k (.all f) W2 h1 (by simp only [Fm.ht]; omega) (DkA_mono h3 (by omega))
    walk_at "st"
    refine if_dec (fun h5 => ?_) (fun h5 => ?_)
    · obtain ⟨m, rfl⟩ : ∃ m, n = m + 1 := ⟨n - 1, by omega⟩
      rw [if_neg (by omega)] at hd1
      have e2 : (2 : Int) ^ (m + 1) = 2 * 2 ^ m := by rw [Int.pow_succ, Int.mul_comm]
      have h4 := pow_pos' m
      walk_at "st"
      rw [str_nat]
      refine handA ⟨a, c + 1, p, m, rfl, hd1, by omega, by omega, hp, hp0, hp1, by omega, fun f W2 f1 f2 f3 => ?_⟩
      try walk_at "st"
      rw [str_nat]
      refine handA ⟨a, c + 1 + (4 * 2 ^ m - 1), p, m, rfl, f3, by omega, by omega, hp, hp0, hp1, by omega, fun g W3 g1 g2 g3 => ?_⟩
      try walk_at "st"
      exact k (.imp f g) W3 ⟨f1, g1⟩ (by simp only [Fm.ht]; omega) (DkA_mono g3 (by omega))
    walk_at "st"
    refine handA ⟨a, _, 4, rfl, hd1, by omega, by omega, by split <;> omega, fun y W2 y0 y1 hd2 => ?_⟩
    try walk_at "st"
    refine if_dec (fun h6 => ?_) (fun h6 => ?_)
    · walk_at "st"
      exact k .no W2 trivial (by simp [Fm.ht]) (DkA_mono hd2 (by split <;> omega))
    · walk_at "st"
      refine handA ⟨a, _, _, rfl, hd2, by split <;> omega, .inr ⟨p, rfl, hp0, by omega, fun q hq W3 hd3 => ?_⟩⟩
      try walk_at "st"
      exact k (.at q) W3 (hp q hq) (by simp [Fm.ht]) (DkA_mono hd3 (by split <;> omega))
abbrev s_law_text : Stmt := top 33
theorem sc_law_text : FnScope ["_law_form_here"] ["_law_form_here"] (defScope s_law_text) := ⟨rfl, rfl, rfl, by decide +kernel, rfl, by decide +kernel, by decide +kernel⟩
theorem c_law_text {P : Program} {w : World} {K : PySem.W.Frag} {mg : Str → Option Value} {base : Heap} {cl : Nat → Addr} {f : Addr} {fd : FuncData} (hm : mg "_law_text" = some (.ref f)) (B : Blt mg) (Z : ZZ K w mg cl) (Fn : Fun K "_law_text" "_law_text" s_law_text f fd) : ∀ j, Cal P w K mg base (1 + j) "_law_text" (spN FK ⟨K, cl⟩ (S_text j)) [] := by
  have fz := Z.z0
  intro j
  induction j with
  | zero => exact calD (k := 0) hm Fn sc_law_text (by intro ds W post h; first | (obtain ⟨rfl, _⟩ := h; rfl) | (obtain ⟨_, rfl, _⟩ := h; rfl) | (obtain ⟨_, _, rfl, _⟩ := h; rfl) | (obtain ⟨_, _, _, rfl, _⟩ := h; rfl) | (obtain ⟨_, _, _, _, rfl, _⟩ := h; rfl) | (obtain ⟨_, _, _, _, _, rfl, _⟩ := h; rfl) | (obtain ⟨_, _, _, _, _, _, rfl, _⟩ := h; rfl) | (obtain ⟨_, _, _, _, _, _, _, rfl, _⟩ := h; rfl) | (obtain ⟨_, _, _, _, _, _, _, _, rfl, _⟩ := h; rfl) | (obtain ⟨_, _, _, _, _, _, _, _, _, rfl, _⟩ := h; rfl) | (obtain ⟨_, _, _, _, _, _, _, _, _, _, rfl, _⟩ := h; rfl) | (obtain ⟨_, _, _, _, _, _, _, _, _, _, _, rfl, _⟩ := h; rfl)) (fun _ _ _ _ _ _ us hl => match us, hl with | [_], _ => rfl) fun cdv A outer s H E hr => ⟨_, pss_never, fun ds W post ⟨f, _, _, h, _⟩ => absurd h (Nat.not_lt_zero _)⟩
  | succ j c_law_text =>
    refine calD (k := 1 + j) hm Fn sc_law_text (by intro ds W post h; first | (obtain ⟨rfl, _⟩ := h; rfl) | (obtain ⟨_, rfl, _⟩ := h; rfl) | (obtain ⟨_, _, rfl, _⟩ := h; rfl) | (obtain ⟨_, _, _, rfl, _⟩ := h; rfl) | (obtain ⟨_, _, _, _, rfl, _⟩ := h; rfl) | (obtain ⟨_, _, _, _, _, rfl, _⟩ := h; rfl) | (obtain ⟨_, _, _, _, _, _, rfl, _⟩ := h; rfl) | (obtain ⟨_, _, _, _, _, _, _, rfl, _⟩ := h; rfl) | (obtain ⟨_, _, _, _, _, _, _, _, rfl, _⟩ := h; rfl) | (obtain ⟨_, _, _, _, _, _, _, _, _, rfl, _⟩ := h; rfl) | (obtain ⟨_, _, _, _, _, _, _, _, _, _, rfl, _⟩ := h; rfl) | (obtain ⟨_, _, _, _, _, _, _, _, _, _, _, rfl, _⟩ := h; rfl)) (fun _ _ _ _ _ _ us hl => match us, hl with | [_], _ => rfl) fun cdv A outer s H E hr => ⟨_, pss_cons (ps_if (pt_cmpR op_eq (pe_ix ix_tup (pv 0) pe_int (fun _ _ => rfl)) pe_str (nomark _)) (pss_one (ps_ret (pe_ix ix_tup (pv 0) pe_int (fun _ _ => rfl)))) (pss_nil))
 (pss_cons (ps_if (pt_cmpR op_eq (pe_ix ix_tup (pv 0) pe_int (fun _ _ => rfl)) pe_str (nomark _)) (pss_one (ps_ret (pe_op op_add_str pe_str (pe_c c_law_text hr (by omega) (by rfl) (pa_cons (pe_ix ix_tup (pv 0) pe_int (fun _ _ => rfl)) pa_nil))))) (pss_nil))
 (pss_cons (ps_if (pt_cmpR op_eq (pe_ix ix_tup (pv 0) pe_int (fun _ _ => rfl)) pe_str (nomark _)) (pss_one (ps_ret pe_str)) (pss_nil))
 (pss_one (ps_ret (pe_op op_add_str (pe_op op_add_str (pe_op op_add_str (pe_op op_add_str pe_str (pe_c c_law_text hr (by omega) (by rfl) (pa_cons (pe_ix ix_tup (pv 0) pe_int (fun _ _ => rfl)) pa_nil))) pe_str) (pe_c c_law_text hr (by omega) (by rfl) (pa_cons (pe_ix ix_tup (pv 0) pe_int (fun _ _ => rfl)) pa_nil))) pe_str))))), ?_⟩
    rintro ds W post ⟨f, rfl, rfl, hj, hs, k⟩
    try dsimp only [cxOf, Cx.nox, Cx.wish]
    have h16 := sizeLine_eq
    have l1 : ("(" : Str).length = 1 := rfl
    have l2 : (" > " : Str).length = 3 := rfl
    have l3 : (")" : Str).length = 1 := rfl
    have l4 : ("all " : Str).length = 4 := rfl
    cases f with
    | «at» c =>
      simp only [Fm.tr]
      walk_at "st"
      exact k
    | no =>
      simp only [Fm.tr]
      walk_at "st"
      exact k
    | all a =>
      simp only [Fm.tr, Fm.ht, Fm.sz] at hj hs ⊢
      walk_at "st"
      refine hand0 ⟨a, rfl, rfl, by omega, by omega, ?_⟩
      try simp only [List.nil_append]
      try walk_at "st"
      refine bo_addS (by rw [Fm.spell_len]; omega) ?_
      try walk_at "st"
      exact k
    | imp a b =>
      simp only [Fm.tr, Fm.ht, Fm.sz] at hj hs ⊢
      have l5 := Fm.spell_len a
      have l6 := Fm.spell_len b
      walk_at "st"
      refine hand0 ⟨a, rfl, rfl, by omega, by omega, ?_⟩
      try simp only [List.nil_append]
      try walk_at "st"
      refine bo_addS (by omega) ?_
      try walk_at "st"
      refine bo_addS (by rw [str_app_len]; omega) ?_
      try walk_at "st"
      refine hand0 ⟨b, rfl, rfl, by omega, by omega, ?_⟩
      try simp only [List.nil_append]
      try walk_at "st"
      refine bo_addS (by rw [str_app_len, str_app_len]; omega) ?_
      try walk_at "st"
      refine bo_addS (by rw [str_app_len, str_app_len, str_app_len]; omega) ?_
      try walk_at "st"
      exact k
abbrev s_law_built : Stmt := top 34
theorem sc_law_built : FnScope ["_law_form_here"] ["_law_form_here"] (defScope s_law_built) := ⟨rfl, rfl, rfl, by decide +kernel, rfl, by decide +kernel, by decide +kernel⟩
theorem c_law_built {P : Program} {w : World} {K : PySem.W.Frag} {mg : Str → Option Value} {base : Heap} {cl : Nat → Addr} {f : Addr} {fd : FuncData} (hm : mg "_law_built" = some (.ref f)) (B : Blt mg) (Z : ZZ K w mg cl) (Fn : Fun K "_law_built" "_law_built" s_law_built f fd)
    (m_Formula : MakR P w K mg base 2 "Formula" (cl 0) (spN FK ⟨K, cl⟩ (starS 2 S_init))) : ∀ j, Cal P w K mg base (5 + j) "_law_built" (spN FK ⟨K, cl⟩ (S_built j)) [] := by
  have fz := Z.z0
  intro j
  induction j with
  | zero => exact calD (k := 4) hm Fn sc_law_built (by intro ds W post h; first | (obtain ⟨rfl, _⟩ := h; rfl) | (obtain ⟨_, rfl, _⟩ := h; rfl) | (obtain ⟨_, _, rfl, _⟩ := h; rfl) | (obtain ⟨_, _, _, rfl, _⟩ := h; rfl) | (obtain ⟨_, _, _, _, rfl, _⟩ := h; rfl) | (obtain ⟨_, _, _, _, _, rfl, _⟩ := h; rfl) | (obtain ⟨_, _, _, _, _, _, rfl, _⟩ := h; rfl) | (obtain ⟨_, _, _, _, _, _, _, rfl, _⟩ := h; rfl) | (obtain ⟨_, _, _, _, _, _, _, _, rfl, _⟩ := h; rfl) | (obtain ⟨_, _, _, _, _, _, _, _, _, rfl, _⟩ := h; rfl) | (obtain ⟨_, _, _, _, _, _, _, _, _, _, rfl, _⟩ := h; rfl) | (obtain ⟨_, _, _, _, _, _, _, _, _, _, _, rfl, _⟩ := h; rfl)) (fun _ _ _ _ _ _ us hl => match us, hl with | [_], _ => rfl) fun cdv A outer s H E hr => ⟨_, pss_never, fun ds W post ⟨f, _, _, h, _⟩ => absurd h (Nat.not_lt_zero _)⟩
  | succ j c_law_built =>
    refine calD (k := 5 + j) hm Fn sc_law_built (by intro ds W post h; first | (obtain ⟨rfl, _⟩ := h; rfl) | (obtain ⟨_, rfl, _⟩ := h; rfl) | (obtain ⟨_, _, rfl, _⟩ := h; rfl) | (obtain ⟨_, _, _, rfl, _⟩ := h; rfl) | (obtain ⟨_, _, _, _, rfl, _⟩ := h; rfl) | (obtain ⟨_, _, _, _, _, rfl, _⟩ := h; rfl) | (obtain ⟨_, _, _, _, _, _, rfl, _⟩ := h; rfl) | (obtain ⟨_, _, _, _, _, _, _, rfl, _⟩ := h; rfl) | (obtain ⟨_, _, _, _, _, _, _, _, rfl, _⟩ := h; rfl) | (obtain ⟨_, _, _, _, _, _, _, _, _, rfl, _⟩ := h; rfl) | (obtain ⟨_, _, _, _, _, _, _, _, _, _, rfl, _⟩ := h; rfl) | (obtain ⟨_, _, _, _, _, _, _, _, _, _, _, rfl, _⟩ := h; rfl)) (fun _ _ _ _ _ _ us hl => match us, hl with | [_], _ => rfl) fun cdv A outer s H E hr => ⟨_, pss_cons (ps_if (pt_cmpR op_eq (pe_ix ix_tup (pv 0) pe_int (fun _ _ => rfl)) pe_str (nomark _)) (pss_one (ps_ret (pe_mkR m_Formula hr (by omega) (by rfl) (pa_cons pe_str (pa_cons (pe_c c_law_built hr (by omega) (by rfl) (pa_cons (pe_ix ix_tup (pv 0) pe_int (fun _ _ => rfl)) pa_nil)) pa_nil))))) (pss_nil))
 (pss_cons (ps_if (pt_cmpR op_eq (pe_ix ix_tup (pv 0) pe_int (fun _ _ => rfl)) pe_str (nomark _)) (pss_one (ps_ret (pe_mkR m_Formula hr (by omega) (by rfl) (pa_cons pe_str (pa_cons (pe_c c_law_built hr (by omega) (by rfl) (pa_cons (pe_ix ix_tup (pv 0) pe_int (fun _ _ => rfl)) pa_nil)) (pa_cons (pe_c c_law_built hr (by omega) (by rfl) (pa_cons (pe_ix ix_tup (pv 0) pe_int (fun _ _ => rfl)) pa_nil)) pa_nil)))))) (pss_nil))
 (pss_one (ps_ret (pe_ifExp (pt_cmpR op_eq (pe_ix ix_tup (pv 0) pe_int (fun _ _ => rfl)) pe_str (nomark _)) (pe_mkR m_Formula hr (by omega) (by rfl) (pa_cons pe_str pa_nil)) (pe_mkR m_Formula hr (by omega) (by rfl) (pa_cons pe_str (pa_cons (pe_ix ix_tup (pv 0) pe_int (fun _ _ => rfl)) pa_nil))))))), ?_⟩
    rintro ds W post ⟨f, rfl, rfl, hj, hf, k⟩
    try dsimp only [cxOf, Cx.nox, Cx.wish]
    cases f with
    | «at» c =>
      simp only [Fm.tr]
      walk_at "st"
      exact ⟨.at c, rfl, hf, k⟩
    | no =>
      simp only [Fm.tr]
      walk_at "st"
      exact ⟨.no, rfl, hf, k⟩
    | all a =>
      simp only [Fm.tr, Fm.ht] at hj ⊢
      walk_at "st"
      refine hand0 ⟨a, rfl, rfl, by omega, hf.a, ?_⟩
      try simp only [List.nil_append]
      try walk_at "st"
      exact ⟨.all a, rfl, hf, k⟩
    | imp a b =>
      simp only [Fm.tr, Fm.ht] at hj ⊢
      walk_at "st"
      refine hand0 ⟨a, rfl, rfl, by omega, hf.l, ?_⟩
      try simp only [List.nil_append]
      try walk_at "st"
      refine hand0 ⟨b, rfl, rfl, by omega, hf.r, ?_⟩
      try simp only [List.nil_append]
      try walk_at "st"
      exact ⟨.imp a b, rfl, hf, k⟩
end
section
abbrev s_law_is_letter : Stmt := top 35
theorem sc_law_is_letter : FnScope ["_law_it", "_law_letters"] ["_law_it"] (defScope s_law_is_letter) := ⟨rfl, rfl, rfl, by decide +kernel, rfl, by decide +kernel, by decide +kernel⟩
theorem c_law_is_letter {P : Program} {w : World} {K : PySem.W.Frag} {mg : Str → Option Value} {base : Heap} {cl : Nat → Addr} {f : Addr} {fd : FuncData} (hm : mg "_law_is_letter" = some (.ref f)) (B : Blt mg) (Z : ZZ K w mg cl) (Fn : Fun K "_law_is_letter" "_law_is_letter" s_law_is_letter f fd) : Cal P w K mg base 1 "_law_is_letter" (spN FK ⟨K, cl⟩ S_isletter) [] := by
  have fz := Z.z0
  refine calD hm Fn sc_law_is_letter (by intro ds W post h; first | (obtain ⟨rfl, _⟩ := h; rfl) | (obtain ⟨_, rfl, _⟩ := h; rfl) | (obtain ⟨_, _, rfl, _⟩ := h; rfl) | (obtain ⟨_, _, _, rfl, _⟩ := h; rfl) | (obtain ⟨_, _, _, _, rfl, _⟩ := h; rfl) | (obtain ⟨_, _, _, _, _, rfl, _⟩ := h; rfl) | (obtain ⟨_, _, _, _, _, _, rfl, _⟩ := h; rfl) | (obtain ⟨_, _, _, _, _, _, _, rfl, _⟩ := h; rfl) | (obtain ⟨_, _, _, _, _, _, _, _, rfl, _⟩ := h; rfl) | (obtain ⟨_, _, _, _, _, _, _, _, _, rfl, _⟩ := h; rfl) | (obtain ⟨_, _, _, _, _, _, _, _, _, _, rfl, _⟩ := h; rfl) | (obtain ⟨_, _, _, _, _, _, _, _, _, _, _, rfl, _⟩ := h; rfl)) (fun _ _ _ _ _ _ us hl => match us, hl with | [_], _ => rfl) fun cdv A outer s H E hr => ⟨_, pss_cons (ps_set (i := 1) sc_law_is_letter.nd rfl (Or.inl rfl) pe_str)
 (pss_one (ps_ret (pe_and (pe_callB call_isi (by rfl) B.isinstance bt_isinstance (pa_cons (pv 0) (pa_cons (pe_bltn (by rfl) B.str bt_str (relV_ty _)) pa_nil))) (pe_and (pe_cmpR op_eq (pe_callB call_len (by rfl) B.len bt_len (pa_cons (pv 0) pa_nil)) pe_int (nomark _)) (pe_one (pe_or (pe_cmpR op_in_sign (pv 0) (pv 1) rfl) (pe_one (pe_cmpR op_in_sign (pv 0) (pe_upper (pv 1)) rfl)))))))), ?_⟩
  rintro ds W post ⟨d, rfl, h⟩
  try dsimp only [cxOf, Cx.nox, Cx.wish]
  have h16 := sizeLine_eq
  rcases h with ⟨c, hc, rfl, k⟩ | ⟨q, ho, k⟩
  · walk_at "st"
    refine ca_lenS (Nat.le_of_ble_eq_true rfl) ?_
    walk_at "st"
    refine bo_inSg ?_
    refine ⟨_, rfl, ?_⟩
    by_cases h1 : c ∈ lets ("abcdefghijklmnopqrstuvwxyz" : Str)
    · refine if_so (decide_eq_true h1) ?_
      exact k
    · refine if_not (decide_eq_false h1) ?_
      walk_at "st"
      refine ev_upper02 ?_
      walk_at "st"
      refine ⟨by decide, bo_inSg ?_⟩
      rw [show decide (c ∈ (Txt.upper ("abcdefghijklmnopqrstuvwxyz" : Str)).cps.toList) = true from decide_eq_true ((lets_up02.mpr hc).resolve_left h1)]
      exact k
  · rcases ho.tx with ⟨s, rfl, hl, hs⟩ | hn
    · walk_at "st"
      refine ca_lenS (s := s) (by omega) ?_
      walk_at "st"
      refine if_dec (fun e => ?_) (fun e => ?_)
      · obtain ⟨c, rfl⟩ := one_sign (show s.length = 1 by omega)
        rw [isLet_sg, decide_eq_false_iff_not] at hs
        have h1 : ¬ c ∈ lets ("abcdefghijklmnopqrstuvwxyz" : Str) := fun h => hs (lets_up02.mp (.inl h))
        have h2 : ¬ c ∈ lets (Txt.upper ("abcdefghijklmnopqrstuvwxyz" : Str)) := fun h => hs (lets_up02.mp (.inr h))
        walk_at "st"
        refine bo_inSg ?_
        refine ⟨_, rfl, ?_⟩
        refine if_not (decide_eq_false h1) ?_
        walk_at "st"
        refine ev_upper02 ?_
        walk_at "st"
        refine ⟨by decide, bo_inSg ?_⟩
        rw [show decide (c ∈ (Txt.upper ("abcdefghijklmnopqrstuvwxyz" : Str)).cps.toList) = false from decide_eq_false h2]
        exact k
      · exact k
    · walk_at "st"
      refine isi_notStr hn ?_
      refine ⟨_, rfl, ?_⟩
      refine if_not rfl ?_
      exact k
end
section
abbrev s_law_odd : Stmt := top 36
theorem sc_law_odd : FnScope ["_law_deck_here", "_law_menu"] ["_law_deck_here"] (defScope s_law_odd) := ⟨rfl, rfl, rfl, by decide +kernel, rfl, by decide +kernel, by decide +kernel⟩
theorem c_law_odd {P : Program} {w : World} {K : PySem.W.Frag} {mg : Str → Option Value} {base : Heap} {cl : Nat → Addr} {f : Addr} {fd : FuncData} (hm : mg "_law_odd" = some (.ref f)) (B : Blt mg) (Z : ZZ K w mg cl) (Fn : Fun K "_law_odd" "_law_odd" s_law_odd f fd)
    (c_law_pick : Cal P w K mg base 2 "_law_pick" (spN FK ⟨K, cl⟩ (S_pick DkA)) []) : Cal P w K mg base 3 "_law_odd" (spN FK ⟨K, cl⟩ S_odd02) [] := by
  have fz := Z.z0
  refine calD hm Fn sc_law_odd (by intro ds W post h; first | (obtain ⟨rfl, _⟩ := h; rfl) | (obtain ⟨_, rfl, _⟩ := h; rfl) | (obtain ⟨_, _, rfl, _⟩ := h; rfl) | (obtain ⟨_, _, _, rfl, _⟩ := h; rfl) | (obtain ⟨_, _, _, _, rfl, _⟩ := h; rfl) | (obtain ⟨_, _, _, _, _, rfl, _⟩ := h; rfl) | (obtain ⟨_, _, _, _, _, _, rfl, _⟩ := h; rfl) | (obtain ⟨_, _, _, _, _, _, _, rfl, _⟩ := h; rfl) | (obtain ⟨_, _, _, _, _, _, _, _, rfl, _⟩ := h; rfl) | (obtain ⟨_, _, _, _, _, _, _, _, _, rfl, _⟩ := h; rfl) | (obtain ⟨_, _, _, _, _, _, _, _, _, _, rfl, _⟩ := h; rfl) | (obtain ⟨_, _, _, _, _, _, _, _, _, _, _, rfl, _⟩ := h; rfl)) (fun _ _ _ _ _ _ us hl => match us, hl with | [_], _ => rfl) fun cdv A outer s H E hr => ⟨_, pss_cons (ps_set (i := 1) sc_law_odd.nd rfl (Or.inl rfl) (pe_lst (pa_cons pe_str (pa_cons pe_str (pa_cons pe_str (pa_cons pe_str (pa_cons pe_str (pa_cons pe_str (pa_cons pe_str (pa_cons pe_str (pa_cons pe_int (pa_cons pe_int (pa_cons (pe_un un_neg pe_int) (pa_cons pe_bl (pa_cons pe_bl (pa_cons pe_non (pa_cons (pe_tup pa_nil) (pa_cons (pe_lst pa_nil) (pa_cons pe_dnewK (pa_cons (pe_tup (pa_cons pe_str pa_nil)) (pa_cons (pe_lst (pa_cons pe_str pa_nil)) pa_nil)))))))))))))))))))))
 (pss_one (ps_ret (pe_c c_law_pick hr (by omega) (by rfl) (pa_cons (pv 0) (pa_cons (pe_op op_cat (pv 1) (pe_lst (pa_cons (pe_op op_pow pe_int pe_int) pa_nil))) pa_nil))))), ?_⟩
  rintro ds W post ⟨a, c, rfl, hd, hc, k⟩
  try dsimp only [cxOf, Cx.nox, Cx.wish]
  have h16 := sizeLine_eq
  walk_at "st"
  refine ev_fz (ev_dnew fun q hq => ⟨q, _, _, _, rfl, List.Perm.refl _, .dct _ _, ?_⟩)
  walk_at "st"
  refine bo_cat (.inl rfl) (.inl rfl) (by show 20 ≤ _; omega) ?_
  walk_at "st"
  refine handA ⟨a, _, _, rfl, hd, by omega, .inl ⟨odd02.map (·.1), .inl rfl, by simp [odd02], by simp [odd02], fun v hv W3 hd4 => ?_⟩⟩
  try walk_at "st"
  obtain ⟨e, he, rfl⟩ := List.mem_map.mp hv
  exact k _ _ W3 (odd02_ok e he) (odd02_kd e he) hd4
end
section
abbrev s_law_part : Stmt := top 37
theorem sc_law_part : FnScope ["_law_deck_here", "_law_form_pool", "_law_way"] ["_law_deck_here", "_law_form_pool"] (defScope s_law_part) := ⟨rfl, rfl, rfl, by decide +kernel, rfl, by decide +kernel, by decide +kernel⟩
theorem c_law_part {P : Program} {w : World} {K : PySem.W.Frag} {mg : Str → Option Value} {base : Heap} {cl : Nat → Addr} {f : Addr} {fd : FuncData} (hm : mg "_law_part" = some (.ref f)) (B : Blt mg) (Z : ZZ K w mg cl) (Fn : Fun K "_law_part" "_law_part" s_law_part f fd)
    (c_law_draw : Cal P w K mg base 1 "_law_draw" (spN FK ⟨K, cl⟩ (S_draw DkA)) [])
    (c_law_pick : Cal P w K mg base 2 "_law_pick" (spN FK ⟨K, cl⟩ (S_pick DkA)) [])
    (c_law_odd : Cal P w K mg base 3 "_law_odd" (spN FK ⟨K, cl⟩ S_odd02) []) : Cal P w K mg base 4 "_law_part" (spN FK ⟨K, cl⟩ S_part02) [] := by
  have fz := Z.z0
  refine calD hm Fn sc_law_part (by intro ds W post h; first | (obtain ⟨rfl, _⟩ := h; rfl) | (obtain ⟨_, rfl, _⟩ := h; rfl) | (obtain ⟨_, _, rfl, _⟩ := h; rfl) | (obtain ⟨_, _, _, rfl, _⟩ := h; rfl) | (obtain ⟨_, _, _, _, rfl, _⟩ := h; rfl) | (obtain ⟨_, _, _, _, _, rfl, _⟩ := h; rfl) | (obtain ⟨_, _, _, _, _, _, rfl, _⟩ := h; rfl) | (obtain ⟨_, _, _, _, _, _, _, rfl, _⟩ := h; rfl) | (obtain ⟨_, _, _, _, _, _, _, _, rfl, _⟩ := h; rfl) | (obtain ⟨_, _, _, _, _, _, _, _, _, rfl, _⟩ := h; rfl) | (obtain ⟨_, _, _, _, _, _, _, _, _, _, rfl, _⟩ := h; rfl) | (obtain ⟨_, _, _, _, _, _, _, _, _, _, _, rfl, _⟩ := h; rfl)) (fun _ _ _ _ _ _ us hl => match us, hl with | [_, _], _ => rfl) fun cdv A outer s H E hr => ⟨_, pss_cons (ps_set (i := 2) sc_law_part.nd rfl (Or.inl rfl) (pe_c c_law_draw hr (by omega) (by rfl) (pa_cons (pv 0) (pa_cons pe_int pa_nil))))
 (pss_cons (ps_if (pt_cmpR op_eq (pv 2) pe_int (nomark _)) (pss_one (ps_ret (pe_tup (pa_cons (pe_c c_law_pick hr (by omega) (by rfl) (pa_cons (pv 0) (pa_cons pe_str pa_nil))) (pa_cons pe_str pa_nil))))) (pss_nil))
 (pss_one (ps_ret (pe_ifExp (pt_cmpR op_eq (pv 2) pe_int (nomark _)) (pe_tup (pa_cons (pe_c c_law_pick hr (by omega) (by rfl) (pa_cons (pv 0) (pa_cons (pv 1) pa_nil))) (pa_cons pe_str pa_nil))) (pe_tup (pa_cons (pe_c c_law_odd hr (by omega) (by rfl) (pa_cons (pv 0) pa_nil)) (pa_cons pe_str pa_nil))))))), ?_⟩
  rintro ds W post ⟨a, c, fs, rfl, hd, hc, hl, hf, k⟩
  try dsimp only [cxOf, Cx.nox, Cx.wish]
  have h16 := sizeLine_eq
  walk_at "st"
  refine handA ⟨a, _, 3, rfl, hd, by omega, by omega, by omega, fun z W1 z0 z1 hd1 => ?_⟩
  try walk_at "st"
  refine if_dec (fun h => ?_) (fun h => ?_)
  · walk_at "st"
    refine handA ⟨a, _, _, rfl, hd1, by omega, .inr ⟨"aZnoA", rfl, by decide +kernel, by decide +kernel, fun q hq W2 hd2 => ?_⟩⟩
    try walk_at "st"
    refine k (_, _) W2 (.lt q ?_) (DkA_mono hd2 (by omega))
    have hq : q ∈ [97, 90, 110, 111, 65] := hq
    simp only [List.mem_cons, List.not_mem_nil, or_false] at hq
    unfold ltr02
    omega
  · walk_at "st"
    refine if_dec (fun h2 => ?_) (fun h2 => ?_)
    · walk_at "st"
      refine handA ⟨a, _, _, rfl, hd1, by omega, .inl ⟨fs.map D.fm, .inl rfl, (fun e => by rw [List.map_eq_nil_iff] at e; rw [e] at hl; cases hl), by rw [List.length_map]; omega, fun v hv W2 hd2 => ?_⟩⟩
      try walk_at "st"
      obtain ⟨f, hm, rfl⟩ := List.mem_map.mp hv
      exact k (_, _) W2 (.fm f (hf f hm)) (DkA_mono hd2 (by omega))
    · walk_at "st"
      refine handA ⟨a, _, rfl, hd1, by omega, fun d q W2 ho hkd hd2 => ?_⟩
      try walk_at "st"
      exact k (_, _) W2 (.odd d q ho) (DkA_mono hd2 (by omega))
end
section
abbrev s_law_due : Stmt := top 38
theorem sc_law_due : FnScope ["_law_kind", "_law_items", "_law_counts", "_law_wished", "_law_k", "_law_item"] ["_law_kind", "_law_items"] (defScope s_law_due) := ⟨rfl, rfl, rfl, by decide +kernel, rfl, by decide +kernel, by decide +kernel⟩
theorem c_law_due {P : Program} {w : World} {K : PySem.W.Frag} {mg : Str → Option Value} {base : Heap} {cl : Nat → Addr} {f : Addr} {fd : FuncData} (hm : mg "_law_due" = some (.ref f)) (B : Blt mg) (Z : ZZ K w mg cl) (Fn : Fun K "_law_due" "_law_due" s_law_due f fd) : Cal P w K mg base 1 "_law_due" (spN FK ⟨K, cl⟩ S_due02) [] := by
  have fz := Z.z0
  refine calD hm Fn sc_law_due (by intro ds W post h; first | (obtain ⟨rfl, _⟩ := h; rfl) | (obtain ⟨_, rfl, _⟩ := h; rfl) | (obtain ⟨_, _, rfl, _⟩ := h; rfl) | (obtain ⟨_, _, _, rfl, _⟩ := h; rfl) | (obtain ⟨_, _, _, _, rfl, _⟩ := h; rfl) | (obtain ⟨_, _, _, _, _, rfl, _⟩ := h; rfl) | (obtain ⟨_, _, _, _, _, _, rfl, _⟩ := h; rfl) | (obtain ⟨_, _, _, _, _, _, _, rfl, _⟩ := h; rfl) | (obtain ⟨_, _, _, _, _, _, _, _, rfl, _⟩ := h; rfl) | (obtain ⟨_, _, _, _, _, _, _, _, _, rfl, _⟩ := h; rfl) | (obtain ⟨_, _, _, _, _, _, _, _, _, _, rfl, _⟩ := h; rfl) | (obtain ⟨_, _, _, _, _, _, _, _, _, _, _, rfl, _⟩ := h; rfl)) (fun _ _ _ _ _ _ us hl => match us, hl with | [_, _], _ => rfl) fun cdv A outer s H E hr => ⟨_, pss_cons (ps_set (i := 2) sc_law_due.nd rfl (Or.inl rfl) (pe_disp (pps_cons pe_str pe_int (pps_cons pe_str pe_int (pps_cons pe_str pe_int (pps_cons pe_str pe_int pps_nil)))) (by rfl) (by rfl) (fun z => by cases z) (by decide)))
 (pss_cons (ps_if (PW.pt (pw_or (pt_not (pt_val (pe_callB call_isi (by rfl) B.isinstance bt_isinstance (pa_cons (pv 0) (pa_cons (pe_bltn (by rfl) B.str bt_str (relV_ty _)) pa_nil))))) (pw_or1 (pt_cmp (pc_dnotin (by exact hu_of hr) (pv 0) (pv 2)))))) (pss_one (ps_ret (pe_lst (pa_cons pe_str pa_nil)))) (pss_nil))
 (pss_cons (ps_if (pt_cmpR op_ne (pe_callB call_len (by rfl) B.len bt_len (pa_cons (pv 1) pa_nil)) (pe_dget (by exact hu_of hr) (pv 2) (pv 0) (fun _ _ => rfl)) (nomark _)) (pss_one (ps_ret (pe_lst (pa_cons pe_str pa_nil)))) (pss_nil))
 (pss_cons (ps_set (i := 3) sc_law_due.nd rfl (Or.inr rfl) (pe_ifExp (pt_cmpR op_eq (pv 0) pe_str (nomark _)) pe_str pe_str))
 (pss_one (ps_ret (pe_slice sl_list (pe_lc (own := [("_law_k", 4), ("_law_item", 5)]) (by rfl) sc_law_due.nd (pi_enumK (by rfl) B.enumerate (pa_cons (pv 1) pa_nil)) (blkOk_by (own := [("_law_k", 4), ("_law_item", 5)]) (N := ["_law_kind", "_law_items", "_law_counts", "_law_wished", "_law_k", "_law_item"]) (sc := defScope s_law_due) (by decide +kernel)) (fun _ _ _ _ _ => (pg_tupK (K := K) rfl (n := 2) rfl (pgs_cons (pg_name (i := 4) sc_law_due.nd rfl (Or.inl rfl)) (pgs_cons (pg_name (i := 5) sc_law_due.nd rfl (Or.inl rfl)) pgs_nil)))) (fun _ _ _ _ _ => pts_one (pt_cmpR op_ne (pe_ix (ix_tupK (K := K) rfl) (pv 5) pe_int (fun _ _ => rfl)) (pv 3) (nomark _))) (fun _ _ _ _ _ => (pv 4))) po_none (po_some pe_int))))))), ?_⟩
  rintro ds W post ⟨kd, its, rfl, rfl, hk, hi, k⟩
  try dsimp only [cxOf, Cx.nox, Cx.wish]
  have h16 := sizeLine_eq
  walk_at "st"
  refine ⟨by decide, ?_⟩
  rcases hk with ⟨s, hs, rfl⟩ | ⟨q, ho, hn⟩
  rotate_left
  · walk_at "st"
    refine isi_notStr hn ?_
    refine ⟨_, rfl, if_so rfl (if_so rfl ?_)⟩
    walk_at "st"
    rw [outF_not hn] at k
    exact k
  rcases kinds_cut hs with ⟨hno, hc⟩ | ⟨f0, rfl, hc⟩
  · walk_at "st"
    refine ev_dnotin (ev_var rfl (ev_var rfl ⟨cntG, Sum.inr s, .inl rfl, rfl, ?_⟩))
    rw [cntG_no hno]
    refine ⟨_, rfl, if_so rfl ?_⟩
    walk_at "st"
    rw [outF_str, hc] at k
    exact k
  walk_at "st"
  refine ev_dnotin (ev_var rfl (ev_var rfl ⟨cntG, Sum.inr f0.kind, .inl rfl, rfl, ?_⟩))
  rw [cntG_yes f0]
  refine ⟨_, rfl, if_not rfl ?_⟩
  walk_at "st"
  refine ⟨cntG, Sum.inr f0.kind, _, .inl rfl, rfl, cntG_yes f0, ?_⟩
  walk_at "st"
  have ek := outF_str f0.kind its
  rw [hc] at ek
  dsimp only at ek
  by_cases hl : its.length = (partsD f0).length
  rotate_left
  · refine if_so (by rw [List.length_map, decide_eq_false (by omega)]; rfl) ?_
    walk_at "st"
    rw [ek, if_neg hl] at k
    exact k
  refine if_not (by rw [List.length_map, decide_eq_true (by omega)]; rfl) ?_
  rw [if_pos hl] at ek
  walk_at "st"
  refine if_dec (fun h => ?_) (fun h => ?_)
  · have hw : wish02 f0.kind = ("letter" : Str) := if_pos h
    rw [hw] at ek
    walk_at "st"
    refine ev_lcF (ei_enumK ?_)
    walk_at "st"
    refine ⟨_, _, rfl, .inl rfl, fun i acc W' => W' = [] ∧ acc = (badIx "letter" 0 (its.take i)).map fun q => natD q.1, ⟨rfl, rfl⟩, ?_, ?_⟩
    · rintro i d acc W' hd ⟨rfl, rfl⟩
      obtain ⟨x, hx, rfl⟩ := pairsD_get hd
      rw [List.getElem?_map] at hx
      obtain ⟨p, hp, rfl⟩ := Option.map_eq_some_iff.mp hx
      have hi1 : i < its.length := (List.getElem?_eq_some_iff.mp hp).1
      have hst : badIx "letter" 0 (its.take (i + 1)) = badIx "letter" 0 (its.take i) ++ if p.2 = "letter" then [] else [(i, p.1)] := by
        rw [List.take_add_one, hp, badIx_app, List.length_take, Nat.min_eq_left (by omega), Nat.zero_add]
        rfl
      have hlb := badIx_len "letter" (its.take i) 0
      rw [List.length_take] at hlb
      have hi3 := hi.1
      refine tw_tup rfl (tws_cons (tw_name (by simp) (tws_cons (tw_name (by simp) (tws_nil ?_)))))
      rw [Nat.zero_add]
      walk_at "st"
      refine if_ndec (fun e => ?_) (fun e => ?_)
      · walk_at "st"
        refine ⟨by rw [List.length_map]; omega, rfl, ?_⟩
        rw [hst, if_neg e, List.map_append]
        rfl
      · refine ⟨rfl, ?_⟩
        rw [hst, if_pos e, List.append_nil]
    · rintro acc W' ⟨rfl, rfl⟩
      rw [pairsD_len, List.length_map, List.take_length]
      walk_at "st"
      rw [take_cut02, ← ek]
      exact k
  · have hw : wish02 f0.kind = ("formula" : Str) := if_neg h
    rw [hw] at ek
    walk_at "st"
    refine ev_lcF (ei_enumK ?_)
    walk_at "st"
    refine ⟨_, _, rfl, .inl rfl, fun i acc W' => W' = [] ∧ acc = (badIx "formula" 0 (its.take i)).map fun q => natD q.1, ⟨rfl, rfl⟩, ?_, ?_⟩
    · rintro i d acc W' hd ⟨rfl, rfl⟩
      obtain ⟨x, hx, rfl⟩ := pairsD_get hd
      rw [List.getElem?_map] at hx
      obtain ⟨p, hp, rfl⟩ := Option.map_eq_some_iff.mp hx
      have hi1 : i < its.length := (List.getElem?_eq_some_iff.mp hp).1
      have hst : badIx "formula" 0 (its.take (i + 1)) = badIx "formula" 0 (its.take i) ++ if p.2 = "formula" then [] else [(i, p.1)] := by
        rw [List.take_add_one, hp, badIx_app, List.length_take, Nat.min_eq_left (by omega), Nat.zero_add]
        rfl
      have hlb := badIx_len "formula" (its.take i) 0
      rw [List.length_take] at hlb
      have hi3 := hi.1
      refine tw_tup rfl (tws_cons (tw_name (by simp) (tws_cons (tw_name (by simp) (tws_nil ?_)))))
      rw [Nat.zero_add]
      walk_at "st"
      refine if_ndec (fun e => ?_) (fun e => ?_)
      · walk_at "st"
        refine ⟨by rw [List.length_map]; omega, rfl, ?_⟩
        rw [hst, if_neg e, List.map_append]
        rfl
      · refine ⟨rfl, ?_⟩
        rw [hst, if_pos e, List.append_nil]
    · rintro acc W' ⟨rfl, rfl⟩
      rw [pairsD_len, List.length_map, List.take_length]
      walk_at "st"
      rw [take_cut02, ← ek]
      exact k
end
section
abbrev s_law_called : Stmt := top 39
theorem sc_law_called : FnScope ["_law_kind", "_law_things", "_law_found", "e"] ["_law_kind", "_law_things"] (defScope s_law_called) := ⟨rfl, rfl, rfl, by decide +kernel, rfl, by decide +kernel, by decide +kernel⟩
theorem c_law_called {P : Program} {w : World} {K : PySem.W.Frag} {mg : Str → Option Value} {base : Heap} {cl : Nat → Addr} {f : Addr} {fd : FuncData} (hm : mg "_law_called" = some (.ref f)) (B : Blt mg) (Z : ZZ K w mg cl) (Fn : Fun K "_law_called" "_law_called" s_law_called f fd)
    (mx_Formula : MakRX P w K mg base 3 "Formula" (cl 0) (spX FK ⟨K, cl⟩ (starSX 2 S_initX02))) : Cal P w K mg base 6 "_law_called" (spN FK ⟨K, cl⟩ (S_called02 cl)) [] := by
  have fz := Z.z0
  refine calD hm Fn sc_law_called (by intro ds W post h; first | (obtain ⟨rfl, _⟩ := h; rfl) | (obtain ⟨_, rfl, _⟩ := h; rfl) | (obtain ⟨_, _, rfl, _⟩ := h; rfl) | (obtain ⟨_, _, _, rfl, _⟩ := h; rfl) | (obtain ⟨_, _, _, _, rfl, _⟩ := h; rfl) | (obtain ⟨_, _, _, _, _, rfl, _⟩ := h; rfl) | (obtain ⟨_, _, _, _, _, _, rfl, _⟩ := h; rfl) | (obtain ⟨_, _, _, _, _, _, _, rfl, _⟩ := h; rfl) | (obtain ⟨_, _, _, _, _, _, _, _, rfl, _⟩ := h; rfl) | (obtain ⟨_, _, _, _, _, _, _, _, _, rfl, _⟩ := h; rfl) | (obtain ⟨_, _, _, _, _, _, _, _, _, _, rfl, _⟩ := h; rfl) | (obtain ⟨_, _, _, _, _, _, _, _, _, _, _, rfl, _⟩ := h; rfl)) (fun _ _ _ _ _ _ us hl => match us, hl with | [_, _], _ => rfl) fun cdv A outer s H E hr => ⟨_, pss_cons (ps_set (i := 2) sc_law_called.nd rfl (Or.inl rfl) pe_non)
 (pss_cons (ps_try_kp (i := 3) rfl rfl sc_law_called.nd rfl rfl ⟨rfl, by decide, .inl Z.g_BadFormula⟩ takes0N (fun W pn xe tk po => pss_one (ps_if (pt_cmpR (op_eqEK (K := K) rfl hr.units) (pv 1) (pe_lst pa_nil) (nomark _)) (pss_one (ps_set (i := 2) sc_law_called.nd rfl (Or.inl rfl) (pe_mkRX mx_Formula hr (by omega) (by rfl) tk (pa_cons (pv 0) pa_nil)))) (pss_one (ps_if (pt_cmpR op_eq (pe_callB (call_lenK (K := K) rfl) (by rfl) B.len bt_len (pa_cons (pv 1) pa_nil)) pe_int (nomark _)) (pss_one (ps_set (i := 2) sc_law_called.nd rfl (Or.inl rfl) (pe_mkRX mx_Formula hr (by omega) (by rfl) tk (pa_cons (pv 0) (pa_cons (pe_ix (ix_listK (K := K) rfl) (pv 1) pe_int (fun _ _ => rfl)) pa_nil))))) (pss_one (ps_if (pt_cmpR op_eq (pe_callB (call_lenK (K := K) rfl) (by rfl) B.len bt_len (pa_cons (pv 1) pa_nil)) pe_int (nomark _)) (pss_one (ps_set (i := 2) sc_law_called.nd rfl (Or.inl rfl) (pe_mkRX mx_Formula hr (by omega) (by rfl) tk (pa_cons (pv 0) (pa_cons (pe_ix (ix_listK (K := K) rfl) (pv 1) pe_int (fun _ _ => rfl)) (pa_cons (pe_ix (ix_listK (K := K) rfl) (pv 1) pe_int (fun _ _ => rfl)) pa_nil)))))) (pss_one (ps_set (i := 2) sc_law_called.nd rfl (Or.inl rfl) (pe_mkRX mx_Formula hr (by omega) (by rfl) tk (pa_cons (pv 0) (pa_cons (pe_ix (ix_listK (K := K) rfl) (pv 1) pe_int (fun _ _ => rfl)) (pa_cons (pe_ix (ix_listK (K := K) rfl) (pv 1) pe_int (fun _ _ => rfl)) (pa_cons (pe_ix (ix_listK (K := K) rfl) (pv 1) pe_int (fun _ _ => rfl)) pa_nil))))))))))))) (fun a oe cls d pn hz hf => pss_one (ps_set (i := 2) sc_law_called.nd rfl (Or.inl rfl) (pv 3))))
 (pss_one (ps_ret (pv 2)))), ?_⟩
  rintro ds W post ⟨kd, its, rfl, rfl, hk, hi, k1, k2⟩
  try dsimp only [cxOf, Cx.nox, Cx.wish]
  have h16 := sizeLine_eq
  walk_at "st"
  refine sw_ofX (W0 := fun _ _ _ _ => False) ?_
  generalize hwx : wKp K (Value.ref (cl 11)) 3 _ _ = wx
  revert wx
  refine (swx_tryK (T := ⟨K, cl⟩) (cc := 11) (ex1 := fun c d G' W' => G' = [some kd, some (.lst (its.map (·.1))), some .non, none] ∧ c = 11 ∧ ∃ l z, outF kd its = some (l, z) ∧ (d, OD.xd ["value"] [z]) ∈ W') (fun _ _ => rfl) (fun W1 => ?_) ?_)
  · rcases its with _ | ⟨p, _ | ⟨q, _ | ⟨r, _ | ⟨s, t⟩⟩⟩⟩
    · walk_at "st"
      refine bo_eqE (.inl (.inl rfl)) (.inl (.inl rfl)) ?_
      refine ⟨_, rfl, if_so rfl ?_⟩
      walk_at "st"
      refine ⟨kd, [], rfl, hk, hi, ?_, ?_⟩
      · intro f h1 h2 h3 h4
        walk_at "st"
        exact k1 f h1 h2 h3 h4 _
      · exact fun l z h e x => ⟨rfl, rfl, l, z, h, List.mem_cons_self⟩
    · walk_at "st"
      refine bo_eqE (.inl (.inl rfl)) (.inl (.inl rfl)) ?_
      refine ⟨_, rfl, if_not rfl ?_⟩
      walk_at "st"
      refine ⟨kd, [p], rfl, hk, hi, ?_, ?_⟩
      · intro f h1 h2 h3 h4
        walk_at "st"
        exact k1 f h1 h2 h3 h4 _
      · exact fun l z h e x => ⟨rfl, rfl, l, z, h, List.mem_cons_self⟩
    · walk_at "st"
      refine bo_eqE (.inl (.inl rfl)) (.inl (.inl rfl)) ?_
      refine ⟨_, rfl, if_not rfl ?_⟩
      walk_at "st"
      refine ⟨kd, [p, q], rfl, hk, hi, ?_, ?_⟩
      · intro f h1 h2 h3 h4
        walk_at "st"
        exact k1 f h1 h2 h3 h4 _
      · exact fun l z h e x => ⟨rfl, rfl, l, z, h, List.mem_cons_self⟩
    · walk_at "st"
      refine bo_eqE (.inl (.inl rfl)) (.inl (.inl rfl)) ?_
      refine ⟨_, rfl, if_not rfl ?_⟩
      walk_at "st"
      refine ⟨kd, [p, q, r], rfl, hk, hi, ?_, ?_⟩
      · intro f h1 h2 h3 h4
        walk_at "st"
        exact k1 f h1 h2 h3 h4 _
      · exact fun l z h e x => ⟨rfl, rfl, l, z, h, List.mem_cons_self⟩
    · exact absurd hi.1 (by simp)
  · rintro c d G' W' ⟨rfl, rfl, l, z, ho, hm⟩
    refine ⟨true, Z.v11_11, fun _ a => ?_, fun h => by cases h⟩
    walk_at "st"
    trace_state
    exact k2 l z ho a d _ (.inr List.mem_cons_self) (.inr ⟨d, rfl, List.mem_cons_of_mem _ hm⟩)
end
section
abbrev s_law_is_same : Stmt := top 40
theorem sc_law_is_same : FnScope ["_law_one", "_law_other"] ["_law_one", "_law_other"] (defScope s_law_is_same) := ⟨rfl, rfl, rfl, by decide +kernel, rfl, by decide +kernel, by decide +kernel⟩
theorem c_law_is_same {P : Program} {w : World} {K : PySem.W.Frag} {mg : Str → Option Value} {base : Heap} {cl : Nat → Addr} {f : Addr} {fd : FuncData} (hm : mg "_law_is_same" = some (.ref f)) (B : Blt mg) (Z : ZZ K w mg cl) (Fn : Fun K "_law_is_same" "_law_is_same" s_law_is_same f fd)
    (o_str : Opn P w K mg base 1 (cl 0) "__str__" (spN FK ⟨K, cl⟩ S_str)) : CalG P w K mg base 4 "_law_is_same" (spN FK ⟨K, cl⟩ ((S_same02 none))) := by
  obtain ⟨hx, ehx⟩ : ∃ hx : Hx, hx = none := ⟨_, rfl⟩
  refine calG hm Fn sc_law_is_same (by intro ds W post h; first | (obtain ⟨rfl, _⟩ := h; rfl) | (obtain ⟨_, rfl, _⟩ := h; rfl) | (obtain ⟨_, _, rfl, _⟩ := h; rfl) | (obtain ⟨_, _, _, rfl, _⟩ := h; rfl) | (obtain ⟨_, _, _, _, rfl, _⟩ := h; rfl) | (obtain ⟨_, _, _, _, _, rfl, _⟩ := h; rfl) | (obtain ⟨_, _, _, _, _, _, rfl, _⟩ := h; rfl) | (obtain ⟨_, _, _, _, _, _, _, rfl, _⟩ := h; rfl) | (obtain ⟨_, _, _, _, _, _, _, _, rfl, _⟩ := h; rfl) | (obtain ⟨_, _, _, _, _, _, _, _, _, rfl, _⟩ := h; rfl) | (obtain ⟨_, _, _, _, _, _, _, _, _, _, rfl, _⟩ := h; rfl) | (obtain ⟨_, _, _, _, _, _, _, _, _, _, _, rfl, _⟩ := h; rfl)) (fun _ _ _ _ _ _ us hl => match us, hl with | [_, _], _ => rfl) fun cdv A outer s H hg hr => ⟨_, pss_cons (ps_if (PW.pt (pw_or (pt_val (pe_callB call_isi (by rfl) B.isinstance bt_isinstance (pa_cons (pv 0) (pa_cons (pe_glob (by rfl) Z.g_Formula (relV_ref _)) pa_nil)))) (pw_or1 (pt_val (pe_callB call_isi (by rfl) B.isinstance bt_isinstance (pa_cons (pv 1) (pa_cons (pe_glob (by rfl) Z.g_Formula (relV_ref _)) pa_nil))))))) (pss_one (ps_ret (pe_and (pe_callB call_isi (by rfl) B.isinstance bt_isinstance (pa_cons (pv 0) (pa_cons (pe_glob (by rfl) Z.g_Formula (relV_ref _)) pa_nil))) (pe_and (pe_callB call_isi (by rfl) B.isinstance bt_isinstance (pa_cons (pv 1) (pa_cons (pe_glob (by rfl) Z.g_Formula (relV_ref _)) pa_nil))) (pe_one (pe_cmpR op_eq (pe_callTy (call_str_opn o_str hr (by omega)) (by rfl) B.str bt_str (pa_cons (pv 0) pa_nil)) (pe_callTy (call_str_opn o_str hr (by omega)) (by rfl) B.str bt_str (pa_cons (pv 1) pa_nil)) (nomark _))))))) (pss_nil))
 (pss_one (ps_ret (pe_cmpR op_eq (pe_callB (call_reprU hg hr.units) (by rfl) B.repr bt_repr (pa_cons (pv 0) pa_nil)) (pe_callB (call_reprU hg hr.units) (by rfl) B.repr bt_repr (pa_cons (pv 1) pa_nil)) (nomark _)))), ?_⟩
  rintro ds W post ⟨d, rfl, h, k⟩
  try dsimp only [cxOf, Cx.nox, Cx.wish]
  have h16 := sizeLine_eq
  walk_at "st"
  rcases h with ⟨eh, f, rfl, hf⟩ | ⟨q, hq, hs, hd⟩
  · first
    | (cases eh; done)
    | (refine isi_fm Z.z0 ?_
       refine ⟨_, rfl, if_so rfl (if_so rfl ?_)⟩
       walk_at "st"
       refine isi_fm Z.z0 ?_
       refine ⟨_, rfl, if_so rfl ?_⟩
       walk_at "st"
       refine isi_fm Z.z0 ?_
       refine ⟨_, rfl, if_so rfl ?_⟩
       walk_at "st"
       refine hand0 ⟨f, rfl, rfl, ⟨_, rfl⟩, ?_⟩
       try simp only [List.nil_append]
       walk_at "st"
       refine hand0 ⟨f, rfl, rfl, ⟨_, rfl⟩, ?_⟩
       try simp only [List.nil_append]
       walk_at "st"
       rw [decide_eq_true (rfl : f.spell = f.spell)]
       exact k)
  · have hfm : ∀ {T : Kx} {R : D → Om → Prop} {W : Om}, CZ T.K (T.cl 0) fmNames → NotC T.K (T.cl 0) → R (.bl false) W → Ca FK T (rIsi T.K) [d, .adr (T.cl 0)] W R := fun z qq r => by
      rcases hd with ⟨s, rfl⟩ | hn
      · exact isi_strF z r
      · exact isi_notC qq hn r
    refine hfm Z.z0 Z.q0 ?_
    refine ⟨_, rfl, if_not rfl ?_⟩
    walk_at "st"
    refine hfm Z.z0 Z.q0 ?_
    refine ⟨_, rfl, if_not rfl ?_⟩
    walk_at "st"
    refine ca_reprU hq hs ?_
    refine ev_cb (ea_cons (ev_var rfl (ea_nil (ca_reprU hq hs ?_))))
    generalize q.shown = S
    refine bo_eqS ?_
    rw [decide_eq_true (rfl : S = S)]
    exact k
theorem cs_law_is_same {P : Program} {w : World} {K : PySem.W.Frag} {mg : Str → Option Value} {base : Heap} {cl : Nat → Addr} {f : Addr} {fd : FuncData} (hm : mg "_law_is_same" = some (.ref f)) (B : Blt mg) (Z : ZZ K w mg cl) (Fn : Fun K "_law_is_same" "_law_is_same" s_law_is_same f fd)
    (o_str : Opn P w K mg base 1 (cl 0) "__str__" (spN FK ⟨K, cl⟩ S_str)) : ∀ (a : Addr) (cls : Value) (d : Option Addr), CalSG P w K mg base 4 "_law_is_same" a cls d (spN FK ⟨K, cl⟩ ((S_same02 (some (a, cls, d))))) := by
  intro a cls d
  refine calSG hm Fn sc_law_is_same (by intro ds W post h; first | (obtain ⟨rfl, _⟩ := h; rfl) | (obtain ⟨_, rfl, _⟩ := h; rfl) | (obtain ⟨_, _, rfl, _⟩ := h; rfl) | (obtain ⟨_, _, _, rfl, _⟩ := h; rfl) | (obtain ⟨_, _, _, _, rfl, _⟩ := h; rfl) | (obtain ⟨_, _, _, _, _, rfl, _⟩ := h; rfl) | (obtain ⟨_, _, _, _, _, _, rfl, _⟩ := h; rfl) | (obtain ⟨_, _, _, _, _, _, _, rfl, _⟩ := h; rfl) | (obtain ⟨_, _, _, _, _, _, _, _, rfl, _⟩ := h; rfl) | (obtain ⟨_, _, _, _, _, _, _, _, _, rfl, _⟩ := h; rfl) | (obtain ⟨_, _, _, _, _, _, _, _, _, _, rfl, _⟩ := h; rfl) | (obtain ⟨_, _, _, _, _, _, _, _, _, _, _, rfl, _⟩ := h; rfl)) (fun _ _ _ _ _ _ us hl => match us, hl with | [_, _], _ => rfl) fun cdv A outer s H E oe hg hh hz hf hr => ⟨_, pss_cons (ps_if (PW.pt (pw_or (pt_val (pe_callB call_isi (by rfl) B.isinstance bt_isinstance (pa_cons (pv 0) (pa_cons (pe_glob (by rfl) Z.g_Formula (relV_ref _)) pa_nil)))) (pw_or1 (pt_val (pe_callB call_isi (by rfl) B.isinstance bt_isinstance (pa_cons (pv 1) (pa_cons (pe_glob (by rfl) Z.g_Formula (relV_ref _)) pa_nil))))))) (pss_one (ps_never)) (pss_nil))
 (pss_one (ps_ret (pe_cmpR op_eq (pe_callB (call_reprU hg (roomH_units hr)) (by rfl) B.repr bt_repr (pa_cons (pv 0) pa_nil)) (pe_callB (call_reprU hg (roomH_units hr)) (by rfl) B.repr bt_repr (pa_cons (pv 1) pa_nil)) (nomark _)))), ?_⟩
  rintro ds W post ⟨d, rfl, h, k⟩
  try dsimp only [cxOf, Cx.nox, Cx.wish]
  have h16 := sizeLine_eq
  walk_at "st"
  rcases h with ⟨eh, f, rfl, hf⟩ | ⟨q, hq, hs, hd⟩
  · first
    | (cases eh; done)
    | (refine isi_fm Z.z0 ?_
       refine ⟨_, rfl, if_so rfl (if_so rfl ?_)⟩
       walk_at "st"
       refine isi_fm Z.z0 ?_
       refine ⟨_, rfl, if_so rfl ?_⟩
       walk_at "st"
       refine isi_fm Z.z0 ?_
       refine ⟨_, rfl, if_so rfl ?_⟩
       walk_at "st"
       refine hand0 ⟨f, rfl, rfl, ⟨_, rfl⟩, ?_⟩
       try simp only [List.nil_append]
       walk_at "st"
       refine hand0 ⟨f, rfl, rfl, ⟨_, rfl⟩, ?_⟩
       try simp only [List.nil_append]
       walk_at "st"
       rw [decide_eq_true (rfl : f.spell = f.spell)]
       exact k)
  · have hfm : ∀ {T : Kx} {R : D → Om → Prop} {W : Om}, CZ T.K (T.cl 0) fmNames → NotC T.K (T.cl 0) → R (.bl false) W → Ca FK T (rIsi T.K) [d, .adr (T.cl 0)] W R := fun z qq r => by
      rcases hd with ⟨s, rfl⟩ | hn
      · exact isi_strF z r
      · exact isi_notC qq hn r
    refine hfm Z.z0 Z.q0 ?_
    refine ⟨_, rfl, if_not rfl ?_⟩
    walk_at "st"
    refine hfm Z.z0 Z.q0 ?_
    refine ⟨_, rfl, if_not rfl ?_⟩
    walk_at "st"
    refine ca_reprU hq hs ?_
    refine ev_cb (ea_cons (ev_var rfl (ea_nil (ca_reprU hq hs ?_))))
    generalize q.shown = S
    refine bo_eqS ?_
    rw [decide_eq_true (rfl : S = S)]
    exact k
end
section
abbrev s_law_are_same : Stmt := top 41
theorem sc_law_are_same : FnScope ["_law_one", "_law_others", "_law_x", "_law_y"] ["_law_one", "_law_others"] (defScope s_law_are_same) := ⟨rfl, rfl, rfl, by decide +kernel, rfl, by decide +kernel, by decide +kernel⟩
theorem c_law_are_same {P : Program} {w : World} {K : PySem.W.Frag} {mg : Str → Option Value} {base : Heap} {cl : Nat → Addr} {f : Addr} {fd : FuncData} (hm : mg "_law_are_same" = some (.ref f)) (B : Blt mg) (Z : ZZ K w mg cl) (Fn : Fun K "_law_are_same" "_law_are_same" s_law_are_same f fd)
    (c_law_is_same : CalG P w K mg base 4 "_law_is_same" (spN FK ⟨K, cl⟩ ((S_same02 none)))) : CalG P w K mg base 5 "_law_are_same" (spN FK ⟨K, cl⟩ S_aresame02) := by
  have fz := Z.z0
  refine calG hm Fn sc_law_are_same (by intro ds W post h; first | (obtain ⟨rfl, _⟩ := h; rfl) | (obtain ⟨_, rfl, _⟩ := h; rfl) | (obtain ⟨_, _, rfl, _⟩ := h; rfl) | (obtain ⟨_, _, _, rfl, _⟩ := h; rfl) | (obtain ⟨_, _, _, _, rfl, _⟩ := h; rfl) | (obtain ⟨_, _, _, _, _, rfl, _⟩ := h; rfl) | (obtain ⟨_, _, _, _, _, _, rfl, _⟩ := h; rfl) | (obtain ⟨_, _, _, _, _, _, _, rfl, _⟩ := h; rfl) | (obtain ⟨_, _, _, _, _, _, _, _, rfl, _⟩ := h; rfl) | (obtain ⟨_, _, _, _, _, _, _, _, _, rfl, _⟩ := h; rfl) | (obtain ⟨_, _, _, _, _, _, _, _, _, _, rfl, _⟩ := h; rfl) | (obtain ⟨_, _, _, _, _, _, _, _, _, _, _, rfl, _⟩ := h; rfl)) (fun _ _ _ _ _ _ us hl => match us, hl with | [_, _], _ => rfl) fun cdv A outer s H hg hr => ⟨_, pss_cons (ps_if (PW.pt (pw_or (pt_not (pt_val (pe_callB call_isi (by rfl) B.isinstance bt_isinstance (pa_cons (pv 0) (pa_cons (pe_bltn (by rfl) B.tuple bt_tuple (relV_ty _)) pa_nil))))) (pw_or1 (pt_cmpR op_ne (pe_callB call_len (by rfl) B.len bt_len (pa_cons (pv 0) pa_nil)) (pe_callB call_len (by rfl) B.len bt_len (pa_cons (pv 1) pa_nil)) (nomark _))))) (pss_one (ps_ret pe_bl)) (pss_nil))
 (pss_one (ps_ret (pe_cmpR (op_eqE hr.units) (pe_lc (own := [("_law_x", 2), ("_law_y", 3)]) (by rfl) sc_law_are_same.nd (pi_zipK (by rfl) B.zip (pa_cons (pv 0) (pa_cons (pv 1) pa_nil))) (blkOk_by (own := [("_law_x", 2), ("_law_y", 3)]) (N := ["_law_one", "_law_others", "_law_x", "_law_y"]) (sc := defScope s_law_are_same) (by decide +kernel)) (fun _ _ _ _ _ => (pg_tupK (K := K) rfl (n := 2) rfl (pgs_cons (pg_name (i := 2) sc_law_are_same.nd rfl (Or.inl rfl)) (pgs_cons (pg_name (i := 3) sc_law_are_same.nd rfl (Or.inl rfl)) pgs_nil)))) (fun _ _ _ _ _ => pts_one (pt_not (pt_val (pe_cg c_law_is_same hg hr (by omega) (by rfl) (pa_cons (pv 2) (pa_cons (pv 3) pa_nil)))))) (fun _ _ _ _ _ => pe_int)) (pe_lst pa_nil) (nomark _)))), ?_⟩
  rintro ds W post ⟨l, rfl, rfl, hl, hs, k⟩
  try dsimp only [cxOf, Cx.nox, Cx.wish]
  have h16 := sizeLine_eq
  walk_at "st"
  refine if_not (by rw [decide_eq_true rfl]; rfl) ?_
  walk_at "st"
  refine ev_lcF (ei_zipK ?_)
  walk_at "st"
  refine ⟨.tup l, .lst l, l, l, rfl, .inr (.inl rfl), .inl rfl, fun i acc W' => W' = [] ∧ acc = [], ⟨rfl, rfl⟩, ?_, ?_⟩
  · rintro i d acc W' hd ⟨rfl, rfl⟩
    obtain ⟨x, y, hx, hy, rfl⟩ := pairs2_get hd
    obtain rfl : x = y := Option.some.inj (hx.symm.trans hy)
    refine tw_tup rfl (tws_cons (tw_name (by simp) (tws_cons (tw_name (by simp) (tws_nil ?_)))))
    walk_at "st"
    refine hand0 ⟨x, rfl, (hs x (List.mem_of_getElem? hx)).imp (fun h => ⟨rfl, h⟩) id, ?_⟩
    try simp only [List.nil_append]
    try walk_at "st"
    exact ⟨trivial, trivial⟩
  · rintro acc W' ⟨rfl, rfl⟩
    walk_at "st"
    refine bo_eqE (.inl (.inl rfl)) (.inl (.inl rfl)) ?_
    exact k
end
section
abbrev s_law_right : Stmt := top 42
theorem sc_law_right : FnScope ["_law_kind", "_law_items", "_law_item", "_law_due_here", "_law_things", "_law_found"] ["_law_kind", "_law_items"] (defScope s_law_right) := ⟨rfl, rfl, rfl, by decide +kernel, rfl, by decide +kernel, by decide +kernel⟩
theorem c_law_right {P : Program} {w : World} {K : PySem.W.Frag} {mg : Str → Option Value} {base : Heap} {cl : Nat → Addr} {f : Addr} {fd : FuncData} (hm : mg "_law_right" = some (.ref f)) (B : Blt mg) (Z : ZZ K w mg cl) (Fn : Fun K "_law_right" "_law_right" s_law_right f fd)
    (c_law_due : Cal P w K mg base 1 "_law_due" (spN FK ⟨K, cl⟩ S_due02) [])
    (c_law_called : Cal P w K mg base 6 "_law_called" (spN FK ⟨K, cl⟩ (S_called02 cl)) [])
    (c_law_is_same : CalG P w K mg base 4 "_law_is_same" (spN FK ⟨K, cl⟩ ((S_same02 none))))
    (c_law_are_same : CalG P w K mg base 5 "_law_are_same" (spN FK ⟨K, cl⟩ S_aresame02)) : CalG P w K mg base 7 "_law_right" (spN FK ⟨K, cl⟩ S_right02) := by
  have fz := Z.z0
  refine calG hm Fn sc_law_right (by intro ds W post h; first | (obtain ⟨rfl, _⟩ := h; rfl) | (obtain ⟨_, rfl, _⟩ := h; rfl) | (obtain ⟨_, _, rfl, _⟩ := h; rfl) | (obtain ⟨_, _, _, rfl, _⟩ := h; rfl) | (obtain ⟨_, _, _, _, rfl, _⟩ := h; rfl) | (obtain ⟨_, _, _, _, _, rfl, _⟩ := h; rfl) | (obtain ⟨_, _, _, _, _, _, rfl, _⟩ := h; rfl) | (obtain ⟨_, _, _, _, _, _, _, rfl, _⟩ := h; rfl) | (obtain ⟨_, _, _, _, _, _, _, _, rfl, _⟩ := h; rfl) | (obtain ⟨_, _, _, _, _, _, _, _, _, rfl, _⟩ := h; rfl) | (obtain ⟨_, _, _, _, _, _, _, _, _, _, rfl, _⟩ := h; rfl) | (obtain ⟨_, _, _, _, _, _, _, _, _, _, _, rfl, _⟩ := h; rfl)) (fun _ _ _ _ _ _ us hl => match us, hl with | [_, _], _ => rfl) fun cdv A outer s H hg hr => ⟨_, pss_cons (ps_par (i := 3) (j := 4) (by rfl) sc_law_right.nd rfl rfl (by decide) rfl rfl (pa_cons (pe_c c_law_due hr (by omega) (by rfl) (pa_cons (pv 0) (pa_cons (pv 1) pa_nil))) (pa_cons (pe_lc (own := [("_law_item", 2)]) (by rfl) sc_law_right.nd (pi_list (pv 1)) (blkOk_by (own := [("_law_item", 2)]) (N := ["_law_kind", "_law_items", "_law_item", "_law_due_here", "_law_things", "_law_found"]) (sc := defScope s_law_right) (by decide +kernel)) (fun _ _ _ _ _ => (pg_name (i := 2) sc_law_right.nd rfl (Or.inl rfl))) (fun _ _ _ _ _ => pts_nil) (fun _ _ _ _ _ => (pe_ix (ix_tupK (K := K) rfl) (pv 2) pe_int (fun _ _ => rfl)))) pa_nil)) (by rfl))
 (pss_cons (ps_set (i := 5) sc_law_right.nd rfl (Or.inl rfl) (pe_c c_law_called hr (by omega) (by rfl) (pa_cons (pv 0) (pa_cons (pv 4) pa_nil))))
 (pss_cons (ps_if (pt_cmpR (op_eqE hr.units) (pv 3) (pe_lst pa_nil) (nomark _)) (pss_one (ps_ret (pe_and (pe_callB call_isi (by rfl) B.isinstance bt_isinstance (pa_cons (pv 5) (pa_cons (pe_glob (by rfl) Z.g_Formula (relV_ref _)) pa_nil))) (pe_and (pe_cmpR op_eq (pe_fld (pv 5) rfl) (pv 0) (nomark _)) (pe_one (pe_cg c_law_are_same hg hr (by omega) (by rfl) (pa_cons (pe_fld (pv 5) rfl) (pa_cons (pv 4) pa_nil)))))))) (pss_nil))
 (pss_cons (ps_if (pt_not (pt_val (pe_callB (call_isU hx_none) (by rfl) B.isinstance bt_isinstance (pa_cons (pv 5) (pa_cons (pe_glob (by rfl) Z.g_BadFormula (relV_ref _)) pa_nil))))) (pss_one (ps_ret pe_bl)) (pss_nil))
 (pss_cons (ps_if (pt_cmpR (op_eqD hr.units) (pv 3) (pe_lst (pa_cons pe_str pa_nil)) (nomark _)) (pss_one (ps_ret (pe_cg c_law_is_same hg hr (by omega) (by rfl) (pa_cons (pe_xU hx_none (pv 5)) (pa_cons (pv 0) pa_nil))))) (pss_nil))
 (pss_cons (ps_if (pt_cmpR (op_eqD hr.units) (pv 3) (pe_lst (pa_cons pe_str pa_nil)) (nomark _)) (pss_one (ps_ret (pe_cg c_law_are_same hg hr (by omega) (by rfl) (pa_cons (pe_xU hx_none (pv 5)) (pa_cons (pv 4) pa_nil))))) (pss_nil))
 (pss_one (ps_ret (pe_cg c_law_is_same hg hr (by omega) (by rfl) (pa_cons (pe_xU hx_none (pv 5)) (pa_cons (pe_ix ix_list (pv 4) (pe_ix ix_list (pv 3) pe_int (fun _ _ => rfl)) (fun _ _ => rfl)) pa_nil)))))))))), ?_⟩
  rintro ds W post ⟨kd, its, rfl, rfl, hk, hi, k⟩
  try dsimp only [cxOf, Cx.nox, Cx.wish]
  have h16 := sizeLine_eq
  have hi3 := hi.1
  walk_at "st"
  refine hand0 ⟨kd, its, rfl, rfl, hk, hi, ?_⟩
  try simp only [List.nil_append]
  try walk_at "st"
  refine ev_lcM (ei_list ?_)
  walk_at "st"
  refine ⟨its.map (·.1), fun i d e hd he => ?_, by rw [List.length_map, List.length_map], by rw [List.length_map]; omega, ?_⟩
  · rw [List.getElem?_map] at hd he
    obtain ⟨p, hp, rfl⟩ := Option.map_eq_some_iff.mp hd
    rw [hp] at he
    obtain rfl := Option.some.inj he
    refine tw_name (by simp) ?_
    walk_at "st"
    refine ⟨rfl, ?_⟩
    walk_at "st"
    exact ⟨rfl, rfl⟩
  refine ea_nil ⟨_, _, rfl, ?_⟩
  walk_at "st"
  refine hand0 ⟨kd, its, rfl, rfl, hk, hi, fun f o1 e1 e2 hf W1 => ?_, fun l z o1 a d W1 m1 m2 => ?_⟩
  try simp only [List.nil_append]
  try walk_at "st"
  · rw [o1]
    refine bo_eqE (.inl (.inl rfl)) (.inl (.inl rfl)) ?_
    refine ⟨_, rfl, if_so rfl ?_⟩
    subst e1
    rw [e2]
    walk_at "st"
    refine if_so (decide_eq_true rfl) ?_
    walk_at "st"
    refine hand0 ⟨partsD f, rfl, rfl, by rw [← e2, List.length_map]; exact hi3, fun d hd => ?_, ?_⟩
    try simp only [List.nil_append]
    try walk_at "st"
    · rw [← e2] at hd
      obtain ⟨p, hp, rfl⟩ := List.mem_map.mp hd
      exact (hi.2 p hp).sv
    · exact k _
  · simp only [List.append_nil]
    rw [o1]
    rcases outF_cases o1 with ⟨rfl, rfl⟩ | ⟨rfl, rfl⟩ | ⟨i, p, rfl, hp, rfl⟩
    · walk_at "st"
      refine bo_eqE (.inl (.inl rfl)) (.inl (.inl rfl)) ?_
      refine ⟨_, rfl, if_not rfl ?_⟩
      walk_at "st"
      refine ca_isU (T := ⟨K, cl⟩) Z.ec11 (fun u h => h) Z.i11_11 m1 m2 ?_
      refine ⟨_, rfl, if_not rfl ?_⟩
      walk_at "st"
      refine bo_eq1S (by decide +kernel) (by decide +kernel) ?_
      refine ⟨_, rfl, if_so (by decide +kernel) ?_⟩
      walk_at "st"
      refine ev_xU (T := ⟨K, cl⟩) (ev_var rfl ⟨a, 11, some d, z, rfl, Z.x11.xf, Z.x11.no, m1, m2, ?_⟩)
      walk_at "st"
      refine handA ⟨z, rfl, (hk.sv).imp (fun h => ⟨rfl, h⟩) id, ?_⟩
      try walk_at "st"
      exact k _
    · walk_at "st"
      refine bo_eqE (.inl (.inl rfl)) (.inl (.inl rfl)) ?_
      refine ⟨_, rfl, if_not rfl ?_⟩
      walk_at "st"
      refine ca_isU (T := ⟨K, cl⟩) Z.ec11 (fun u h => h) Z.i11_11 m1 m2 ?_
      refine ⟨_, rfl, if_not rfl ?_⟩
      walk_at "st"
      refine bo_eq1S (by decide +kernel) (by decide +kernel) ?_
      refine ⟨_, rfl, if_not (by decide +kernel) ?_⟩
      walk_at "st"
      refine bo_eq1S (by decide +kernel) (by decide +kernel) ?_
      refine ⟨_, rfl, if_so (by decide +kernel) ?_⟩
      walk_at "st"
      refine ev_xU (T := ⟨K, cl⟩) (ev_var rfl ⟨a, 11, some d, .tup (its.map (·.1)), rfl, Z.x11.xf, Z.x11.no, m1, m2, ?_⟩)
      walk_at "st"
      refine hand0 ⟨its.map (·.1), rfl, rfl, by rw [List.length_map]; exact hi3, fun d hd => ?_, ?_⟩
      try simp only [List.nil_append]
      try walk_at "st"
      · obtain ⟨p, hp, rfl⟩ := List.mem_map.mp hd
        exact (hi.2 p hp).sv
      · exact k _
    · walk_at "st"
      refine bo_eqE (.inl (.inl rfl)) (.inl (.inl rfl)) ?_
      refine ⟨_, rfl, if_not rfl ?_⟩
      walk_at "st"
      refine ca_isU (T := ⟨K, cl⟩) Z.ec11 (fun u h => h) Z.i11_11 m1 m2 ?_
      refine ⟨_, rfl, if_not rfl ?_⟩
      walk_at "st"
      refine bo_eq1I (by decide +kernel) ?_
      refine ⟨_, rfl, if_not rfl ?_⟩
      walk_at "st"
      refine bo_eq1I (by decide +kernel) ?_
      refine ⟨_, rfl, if_not rfl ?_⟩
      walk_at "st"
      refine ev_xU (T := ⟨K, cl⟩) (ev_var rfl ⟨a, 11, some d, p.1, rfl, Z.x11.xf, Z.x11.no, m1, m2, ?_⟩)
      walk_at "st"
      refine bo_ixL (.inl (.inl rfl)) (atI_nat02 (show (its.map (·.1))[i]? = some p.1 by rw [List.getElem?_map, hp]; rfl)) ?_
      refine ea_nil ?_
      refine handA ⟨p.1, rfl, ((hi.2 p (List.mem_of_getElem? hp)).sv).imp (fun h => ⟨rfl, h⟩) id, ?_⟩
      try walk_at "st"
      exact k _
end
section
abbrev s_law_atom_right : Stmt := top 43
theorem sc_law_atom_right : FnScope ["_law_it", "_law_due_here", "_law_found", "e"] ["_law_it"] (defScope s_law_atom_right) := ⟨rfl, rfl, rfl, by decide +kernel, rfl, by decide +kernel, by decide +kernel⟩
theorem c_law_atom_right {P : Program} {w : World} {K : PySem.W.Frag} {mg : Str → Option Value} {base : Heap} {cl : Nat → Addr} {f : Addr} {fd : FuncData} (hm : mg "_law_atom_right" = some (.ref f)) (B : Blt mg) (Z : ZZ K w mg cl) (Fn : Fun K "_law_atom_right" "_law_atom_right" s_law_atom_right f fd)
    (c_law_is_letter : Cal P w K mg base 1 "_law_is_letter" (spN FK ⟨K, cl⟩ S_isletter) [])
    (c_is_atom : Cal P w K mg base 1 "is_atom" (spN FK ⟨K, cl⟩ S_isatomV) [])
    (k_is_atom : CalK P w K mg base 1 "is_atom" ["thing"] (fun _ zs => zs) (spN FK ⟨K, cl⟩ S_isatomV))
    (cx_atom : CalXN P w K mg base 5 "atom" (spX FK ⟨K, cl⟩ (S_atomX02)))
    (k_atom : CalK P w K mg base 5 "atom" ["letter"] (fun _ zs => zs) (spN FK ⟨K, cl⟩ S_atom))
    (cs_law_is_same : ∀ (a : Addr) (cls : Value) (d : Option Addr), CalSG P w K mg base 4 "_law_is_same" a cls d (spN FK ⟨K, cl⟩ ((S_same02 (some (a, cls, d))))))
    (o_str : Opn P w K mg base 1 (cl 0) "__str__" (spN FK ⟨K, cl⟩ S_str))
    (o_eq : Opn P w K mg base 1 (cl 0) "__eq__" (spN FK ⟨K, cl⟩ S_eqF02)) : CalG P w K mg base 6 "_law_atom_right" (spN FK ⟨K, cl⟩ S_atomright02) := by
  have fz := Z.z0
  refine calG hm Fn sc_law_atom_right (by intro ds W post h; first | (obtain ⟨rfl, _⟩ := h; rfl) | (obtain ⟨_, rfl, _⟩ := h; rfl) | (obtain ⟨_, _, rfl, _⟩ := h; rfl) | (obtain ⟨_, _, _, rfl, _⟩ := h; rfl) | (obtain ⟨_, _, _, _, rfl, _⟩ := h; rfl) | (obtain ⟨_, _, _, _, _, rfl, _⟩ := h; rfl) | (obtain ⟨_, _, _, _, _, _, rfl, _⟩ := h; rfl) | (obtain ⟨_, _, _, _, _, _, _, rfl, _⟩ := h; rfl) | (obtain ⟨_, _, _, _, _, _, _, _, rfl, _⟩ := h; rfl) | (obtain ⟨_, _, _, _, _, _, _, _, _, rfl, _⟩ := h; rfl) | (obtain ⟨_, _, _, _, _, _, _, _, _, _, rfl, _⟩ := h; rfl) | (obtain ⟨_, _, _, _, _, _, _, _, _, _, _, rfl, _⟩ := h; rfl)) (fun _ _ _ _ _ _ us hl => match us, hl with | [_], _ => rfl) fun cdv A outer s H hg hr => ⟨_, pss_cons (ps_set (i := 1) sc_law_atom_right.nd rfl (Or.inl rfl) (pe_c c_law_is_letter hr (by omega) (by rfl) (pa_cons (pv 0) pa_nil)))
 (pss_cons (ps_if (pt_cmpR op_ne (pe_callB (call_reprU hg hr.units) (by rfl) B.repr bt_repr (pa_cons (pe_lst (pa_cons (pe_c c_is_atom hr (by omega) (by rfl) (pa_cons (pv 0) pa_nil)) (pa_cons (pe_ck k_is_atom hr (by omega) (by rfl) (pk_cons (pv 0) (pk_nil))) pa_nil))) pa_nil)) (pe_callB (call_reprU hg hr.units) (by rfl) B.repr bt_repr (pa_cons (pe_lst (pa_cons (pv 1) (pa_cons (pv 1) pa_nil))) pa_nil)) (nomark _)) (pss_one (ps_ret pe_bl)) (pss_nil))
 (pss_cons (ps_set (i := 2) sc_law_atom_right.nd rfl (Or.inl rfl) pe_non)
 (pss_cons (L2N.ps_try_as (i := 3) rfl rfl sc_law_atom_right.nd rfl rfl ⟨rfl, by decide, .inl Z.g_BadFormula⟩ takes0N (fun W pn xe tk po => pss_one (ps_set (i := 2) sc_law_atom_right.nd rfl (Or.inl rfl) (pe_cXN cx_atom hr (by omega) (by rfl) tk (pa_cons (pv 0) pa_nil)))) (fun a oe cls d pn hz hf => pss_one (ps_ret (pe_and (pe_not (pv 1)) (pe_one (pe_cSG (cs_law_is_same a cls d) (roomH_mark hr _) hg (by omega) List.mem_cons_self rfl hz hf (by rfl) (pa_cons (pe_xf Z.x11.xf Z.x11.no hz.zc hf (pv 3)) (pa_cons (pv 0) pa_nil))))))))
 (pss_one (ps_ret (pe_and (pv 1) (pe_and (pe_cmpR op_eq (pe_callTy (call_str_opn o_str hr (by omega)) (by rfl) B.str bt_str (pa_cons (pv 2) pa_nil)) (pv 0) (nomark _)) (pe_and (pe_cmpR op_eq (pe_fld (pv 2) rfl) pe_str (nomark _)) (pe_and (pe_cmpR (op_eqD hr.units) (pe_fld (pv 2) rfl) (pe_tup (pa_cons (pv 0) pa_nil)) (nomark _)) (pe_one (pe_cmpR (op_eqv o_eq hr (by omega)) (pe_ck k_atom hr (by omega) (by rfl) (pk_cons (pv 0) (pk_nil))) (pv 2) (nomark _)))))))))))), ?_⟩
  rintro ds W post ⟨d, rfl, rfl, hv, k⟩
  try dsimp only [cxOf, Cx.nox, Cx.wish]
  have h16 := sizeLine_eq
  rcases hv with ⟨c, hc, rfl⟩ | ⟨q, ho⟩
  · walk_at "st"
    refine handA ⟨_, rfl, .inl ⟨c, hc, rfl, ?_⟩⟩
    try walk_at "st"
    refine (It02.lt c hc).isatom ?_
    rw [show decide (("letter" : Str) = "letter") = true from by decide +kernel]
    walk_at "st"
    refine ev_ck (ea_cons (ev_var rfl (ea_nil ⟨rfl, [_], fun H zs hz => hz, ?_⟩)))
    refine (It02.lt c hc).isatom ?_
    rw [show decide (("letter" : Str) = "letter") = true from by decide +kernel]
    walk_at "st"
    refine ca_reprU (drv_2b true) (shw_2b true) ?_
    walk_at "st"
    refine ca_reprU (drv_2b true) (shw_2b true) ?_
    generalize PyData.shown _ = S
    refine bo_neS ?_
    refine ⟨_, rfl, if_not (by rw [decide_eq_true rfl]; rfl) ?_⟩
    walk_at "st"
    refine sw_ofX (W0 := fun _ _ _ _ => False) ?_
    generalize hwx : wAs K (Value.ref (cl 11)) 3 _ _ = wx
    revert wx
    refine (swx_tryG (T := ⟨K, cl⟩) (cc := 11) (ex1 := fun _ _ _ _ => False) (fun _ _ => rfl) (fun W1 => ?_) (fun _ _ _ _ h => h.elim))
    walk_at "st"
    refine handX0 ⟨_, rfl, rfl, .inl ⟨c, hc, rfl, ?_⟩⟩
    walk_at "st"
    refine hand0 ⟨.at c, rfl, rfl, ⟨_, rfl⟩, ?_⟩
    try simp only [List.nil_append]
    try walk_at "st"
    refine if_so (decide_eq_true rfl) ?_
    walk_at "st"
    refine bo_eqT1 hc ?_
    refine ⟨_, rfl, if_so rfl ?_⟩
    walk_at "st"
    refine ev_ck (ea_cons (ev_var rfl (ea_nil ⟨rfl, [_], fun H zs hz => hz, ?_⟩)))
    refine hand0 ⟨c, rfl, rfl, hc, ?_⟩
    walk_at "st"
    refine bo_eqV (Inst.fm (.at c)) (tyd_ins (Inst.fm (.at c)) Z.z0.ins) notFirst_self ?_
    refine handA ⟨.at c, .fm (.at c), rfl, .inl ⟨.at c, rfl, ⟨_, rfl⟩, ?_⟩⟩
    try walk_at "st"
    rw [decide_eq_true (rfl : (Fm.at c).spell = (Fm.at c).spell)]
    exact k _
  · walk_at "st"
    refine handA ⟨_, rfl, .inr ⟨q, ho, ?_⟩⟩
    try walk_at "st"
    refine (It02.odd d q ho).isatom ?_
    rw [show decide (("odd" : Str) = "letter") = false from by decide +kernel]
    walk_at "st"
    refine ev_ck (ea_cons (ev_var rfl (ea_nil ⟨rfl, [_], fun H zs hz => hz, ?_⟩)))
    refine (It02.odd d q ho).isatom ?_
    rw [show decide (("odd" : Str) = "letter") = false from by decide +kernel]
    walk_at "st"
    refine ca_reprU (drv_2b false) (shw_2b false) ?_
    walk_at "st"
    refine ca_reprU (drv_2b false) (shw_2b false) ?_
    generalize PyData.shown _ = S
    refine bo_neS ?_
    refine ⟨_, rfl, if_not (by rw [decide_eq_true rfl]; rfl) ?_⟩
    walk_at "st"
    refine sw_ofX (W0 := fun _ _ _ _ => False) ?_
    generalize hwx : wAs K (Value.ref (cl 11)) 3 _ _ = wx
    revert wx
    refine (swx_tryG (T := ⟨K, cl⟩) (cc := 11) (ex1 := fun c e G' W' => c = 11 ∧ G' = [some d, some (.bl false), some .non, none] ∧ (e, OD.xd ["value"] [d]) ∈ W') (fun _ _ => rfl) (fun W1 => ?_) ?_)
    · walk_at "st"
      refine handX0 ⟨_, rfl, rfl, .inr ⟨q, ho, fun e => ⟨rfl, rfl, ?_⟩⟩⟩
      exact List.mem_cons_self
    · rintro c e G' W' ⟨rfl, rfl, hm⟩
      refine ⟨true, Z.v11_11, fun _ a => ?_, fun h => by cases h⟩
      walk_at "st"
      refine ev_xf ?_
      walk_at "st"
      refine ⟨rfl, _, _, _, hm, rfl, ?_⟩
      walk_at "st"
      refine handA ⟨d, rfl, .inr ⟨q, ho.dr, ho.sh, ho.tx.imp (fun ⟨s, e, _⟩ => ⟨s, e⟩) id⟩, ?_⟩
      try walk_at "st"
      exact k _
end
section
abbrev s_law : Stmt := top 44
theorem sc_law : FnScope ["_law_script", "_law_deck_here", "_law_lap", "_law_k", "_law_forms", "_law_form_here", "_law_pool", "_law_kind", "_law_items", "_law_many", "_law_at", "_law_one", "_law_two", "_law_alike_due", "_law_it"] ["_law_script"] (defScope s_law) := ⟨rfl, rfl, rfl, by decide +kernel, rfl, by decide +kernel, by decide +kernel⟩
theorem c_law {P : Program} {w : World} {K : PySem.W.Frag} {mg : Str → Option Value} {base : Heap} {cl : Nat → Addr} {f : Addr} {fd : FuncData} (hm : mg "law" = some (.ref f)) (B : Blt mg) (Z : ZZ K w mg cl) (Fn : Fun K "law" "law" s_law f fd)
    (c_law_deck : Cal P w K mg base 1 "_law_deck" (spN FK ⟨K, cl⟩ (S_deck DkA)) [])
    (c_law_draw : Cal P w K mg base 1 "_law_draw" (spN FK ⟨K, cl⟩ (S_draw DkA)) [])
    (c_law_pick : Cal P w K mg base 2 "_law_pick" (spN FK ⟨K, cl⟩ (S_pick DkA)) [])
    (c_law_form : Cal P w K mg base 23 "_law_form" (spN FK ⟨K, cl⟩ ((S_form DkA) 20)) [])
    (c_law_built : Cal P w K mg base 75 "_law_built" (spN FK ⟨K, cl⟩ (S_built 70)) [])
    (c_law_text : Cal P w K mg base 71 "_law_text" (spN FK ⟨K, cl⟩ (S_text 70)) [])
    (c_law_odd : Cal P w K mg base 3 "_law_odd" (spN FK ⟨K, cl⟩ S_odd02) [])
    (c_law_part : Cal P w K mg base 4 "_law_part" (spN FK ⟨K, cl⟩ S_part02) [])
    (c_law_right : CalG P w K mg base 7 "_law_right" (spN FK ⟨K, cl⟩ S_right02))
    (c_law_atom_right : CalG P w K mg base 6 "_law_atom_right" (spN FK ⟨K, cl⟩ S_atomright02))
    (o_str : Opn P w K mg base 1 (cl 0) "__str__" (spN FK ⟨K, cl⟩ S_str))
    (o_eq : Opn P w K mg base 1 (cl 0) "__eq__" (spN FK ⟨K, cl⟩ S_eqF02)) : CalG P w K mg base 76 "law" (spN FK ⟨K, cl⟩ S_law) := by
  have fz := Z.z0
  refine calG hm Fn sc_law (by intro ds W post h; first | (obtain ⟨rfl, _⟩ := h; rfl) | (obtain ⟨_, rfl, _⟩ := h; rfl) | (obtain ⟨_, _, rfl, _⟩ := h; rfl) | (obtain ⟨_, _, _, rfl, _⟩ := h; rfl) | (obtain ⟨_, _, _, _, rfl, _⟩ := h; rfl) | (obtain ⟨_, _, _, _, _, rfl, _⟩ := h; rfl) | (obtain ⟨_, _, _, _, _, _, rfl, _⟩ := h; rfl) | (obtain ⟨_, _, _, _, _, _, _, rfl, _⟩ := h; rfl) | (obtain ⟨_, _, _, _, _, _, _, _, rfl, _⟩ := h; rfl) | (obtain ⟨_, _, _, _, _, _, _, _, _, rfl, _⟩ := h; rfl) | (obtain ⟨_, _, _, _, _, _, _, _, _, _, rfl, _⟩ := h; rfl) | (obtain ⟨_, _, _, _, _, _, _, _, _, _, _, rfl, _⟩ := h; rfl)) (fun _ _ _ _ _ _ us hl => match us, hl with | [_], _ => rfl) fun cdv A outer s H hg hr => ⟨_, pss_cons (ps_set (i := 1) sc_law.nd rfl (Or.inr rfl) (pe_c c_law_deck hr (by omega) (by rfl) (pa_cons (pv 0) pa_nil)))
 (pss_cons (ps_for PassesOwn.never rfl (pi_range1 (by rfl) B.range (pa_cons pe_int pa_nil)) (pg_name (i := 2) sc_law.nd rfl (Or.inl rfl)) (pss_cons (ps_set (i := 4) sc_law.nd rfl (Or.inr rfl) (pe_lc (own := [("_law_k", 3)]) (by rfl) sc_law.nd (pi_range1 (by rfl) B.range (pa_cons pe_int pa_nil)) (blkOk_by (own := [("_law_k", 3)]) (N := ["_law_script", "_law_deck_here", "_law_lap", "_law_k", "_law_forms", "_law_form_here", "_law_pool", "_law_kind", "_law_items", "_law_many", "_law_at", "_law_one", "_law_two", "_law_alike_due", "_law_it"]) (sc := defScope s_law) (by decide +kernel)) (fun _ _ _ _ _ => (pg_name (i := 3) sc_law.nd rfl (Or.inl rfl))) (fun _ _ _ _ _ => pts_nil) (fun _ _ _ _ _ => (pe_c c_law_form hr (by omega) (by rfl) (pa_cons (pv 1) (pa_cons pe_str (pa_cons (pe_c c_law_draw hr (by omega) (by rfl) (pa_cons (pv 1) (pa_cons pe_int pa_nil))) pa_nil)))))))
 (pss_cons (ps_set (i := 6) sc_law.nd rfl (Or.inr rfl) (pe_lc (own := [("_law_form_here", 5)]) (by rfl) sc_law.nd (pi_list (pv 4)) (blkOk_by (own := [("_law_form_here", 5)]) (N := ["_law_script", "_law_deck_here", "_law_lap", "_law_k", "_law_forms", "_law_form_here", "_law_pool", "_law_kind", "_law_items", "_law_many", "_law_at", "_law_one", "_law_two", "_law_alike_due", "_law_it"]) (sc := defScope s_law) (by decide +kernel)) (fun _ _ _ _ _ => (pg_name (i := 5) sc_law.nd rfl (Or.inl rfl))) (fun _ _ _ _ _ => pts_nil) (fun _ _ _ _ _ => (pe_c c_law_built hr (by omega) (by rfl) (pa_cons (pv 5) pa_nil)))))
 (pss_cons (ps_set (i := 7) sc_law.nd rfl (Or.inl rfl) (pe_c c_law_pick hr (by omega) (by rfl) (pa_cons (pv 1) (pa_cons (pe_lst (pa_cons pe_str (pa_cons pe_str (pa_cons pe_str (pa_cons pe_str (pa_cons pe_str (pa_cons pe_str (pa_cons (pe_c c_law_odd hr (by omega) (by rfl) (pa_cons (pv 1) pa_nil)) (pa_cons pe_str (pa_cons pe_str pa_nil)))))))))) pa_nil))))
 (pss_cons (ps_setLc (i := 8) (own := [("_law_k", 3)]) (by rfl) sc_law.nd rfl rfl (sw_true rfl rfl rfl (by decide +kernel)) (pi_range1 (by rfl) B.range (pa_cons (pe_c c_law_draw hr (by omega) (by rfl) (pa_cons (pv 1) (pa_cons pe_int pa_nil))) pa_nil)) (blkOk_by (own := [("_law_k", 3)]) (N := ["_law_script", "_law_deck_here", "_law_lap", "_law_k", "_law_forms", "_law_form_here", "_law_pool", "_law_kind", "_law_items", "_law_many", "_law_at", "_law_one", "_law_two", "_law_alike_due", "_law_it"]) (sc := defScope s_law) (by decide +kernel)) (fun _ _ _ _ _ => (pg_name (i := 3) sc_law.nd rfl (Or.inl rfl))) (fun _ _ _ _ _ => pts_nil) (fun _ _ _ _ _ => (pe_c c_law_part hr (by omega) (by rfl) (pa_cons (pv 1) (pa_cons (pv 6) pa_nil)))))
 (pss_cons (ps_if (pt_cmpR op_eq (pe_c c_law_draw hr (by omega) (by rfl) (pa_cons (pv 1) (pa_cons pe_int pa_nil))) pe_int (nomark _)) (pss_cons (ps_set (i := 9) sc_law.nd rfl (Or.inl rfl) (pe_ifExp (pt_val (pe_callB call_isi (by rfl) B.isinstance bt_isinstance (pa_cons (pv 7) (pa_cons (pe_bltn (by rfl) B.str bt_str (relV_ty _)) pa_nil)))) (pe_dget2 (by exact hu_of hr) (pe_disp (pps_cons pe_str pe_int (pps_cons pe_str pe_int pps_nil)) (by rfl) (by rfl) (fun z => by cases z) (by decide)) (pv 7) pe_int ⟨by rfl, by rfl, by rfl, by rfl⟩) pe_int))
 (pss_cons (ps_setLc (i := 8) (own := [("_law_k", 3)]) (by rfl) sc_law.nd rfl rfl (sw_true rfl rfl rfl (by decide +kernel)) (pi_range1 (by rfl) B.range (pa_cons (pv 9) pa_nil)) (blkOk_by (own := [("_law_k", 3)]) (N := ["_law_script", "_law_deck_here", "_law_lap", "_law_k", "_law_forms", "_law_form_here", "_law_pool", "_law_kind", "_law_items", "_law_many", "_law_at", "_law_one", "_law_two", "_law_alike_due", "_law_it"]) (sc := defScope s_law) (by decide +kernel)) (fun _ _ _ _ _ => (pg_name (i := 3) sc_law.nd rfl (Or.inl rfl))) (fun _ _ _ _ _ => pts_nil) (fun _ _ _ _ _ => (pe_tup (pa_cons (pe_ix (ix_listK (K := K) rfl) (pv 6) (pv 3) (fun _ _ => rfl)) (pa_cons pe_str pa_nil)))))
 (pss_one (ps_if (PW.pt (pw_and (pt_cmpR (op_neE hr.units) (pv 8) (pe_lst pa_nil) (nomark _)) (pw_and1 (pt_cmpR op_eq (pe_c c_law_draw hr (by omega) (by rfl) (pa_cons (pv 1) (pa_cons pe_int pa_nil))) pe_int (nomark _))))) (pss_cons (ps_set (i := 10) sc_law.nd rfl (Or.inl rfl) (pe_c c_law_draw hr (by omega) (by rfl) (pa_cons (pv 1) (pa_cons (pe_callB call_len (by rfl) B.len bt_len (pa_cons (pv 8) pa_nil)) pa_nil))))
 (pss_one (ps_set (i := 8) sc_law.nd rfl (Or.inl rfl) (pe_op op_cat (pe_op op_cat (pe_slice sl_list (pv 8) po_none (po_some (pv 10))) (pe_lst (pa_cons (pe_c c_law_part hr (by omega) (by rfl) (pa_cons (pv 1) (pa_cons (pv 6) pa_nil))) pa_nil))) (pe_slice sl_list (pv 8) (po_some (pe_op op_add (pv 10) pe_int)) po_none))))) (pss_nil))))) (pss_nil))
 (pss_cons (ps_if (pt_not (pt_val (pe_cg c_law_right hg hr (by omega) (by rfl) (pa_cons (pv 7) (pa_cons (pv 8) pa_nil))))) (pss_one (ps_ret pe_bl)) (pss_nil))
 (pss_cons (ps_setLc (i := 13) (own := [("_law_one", 11)]) (by rfl) sc_law.nd rfl rfl (sw_true rfl rfl rfl (by decide +kernel)) (pi_list (pv 4)) (blkOk_by (own := [("_law_one", 11)]) (N := ["_law_script", "_law_deck_here", "_law_lap", "_law_k", "_law_forms", "_law_form_here", "_law_pool", "_law_kind", "_law_items", "_law_many", "_law_at", "_law_one", "_law_two", "_law_alike_due", "_law_it"]) (sc := defScope s_law) (by decide +kernel)) (fun _ _ _ _ _ => (pg_name (i := 11) sc_law.nd rfl (Or.inr rfl))) (fun _ _ _ _ _ => pts_nil) (fun _ _ _ _ _ => (pe_lc (own := [("_law_two", 12)]) (by rfl) sc_law.nd (pi_listK (K := K) rfl (pv 4)) (blkOk_by (own := [("_law_two", 12)]) (N := ["_law_script", "_law_deck_here", "_law_lap", "_law_k", "_law_forms", "_law_form_here", "_law_pool", "_law_kind", "_law_items", "_law_many", "_law_at", "_law_one", "_law_two", "_law_alike_due", "_law_it"]) (sc := _) (by kernel_rfl)) (fun _ _ _ _ _ => (pg_name (i := 12) sc_law.nd rfl (Or.inl rfl))) (fun _ _ _ _ _ => pts_nil) (fun _ _ _ _ _ => (pe_cmpR op_eq (pe_c c_law_text hr (by omega) (by rfl) (pa_cons (pv 11) pa_nil)) (pe_c c_law_text hr (by omega) (by rfl) (pa_cons (pv 12) pa_nil)) (nomark _))))))
 (pss_cons (ps_if (pt_cmpR (op_neD hr.units) (pe_lc (own := [("_law_one", 11)]) (by rfl) sc_law.nd (pi_list (pv 6)) (blkOk_by (own := [("_law_one", 11)]) (N := ["_law_script", "_law_deck_here", "_law_lap", "_law_k", "_law_forms", "_law_form_here", "_law_pool", "_law_kind", "_law_items", "_law_many", "_law_at", "_law_one", "_law_two", "_law_alike_due", "_law_it"]) (sc := defScope s_law) (by decide +kernel)) (fun _ _ _ _ _ => (pg_name (i := 11) sc_law.nd rfl (Or.inr rfl))) (fun _ _ _ _ _ => pts_nil) (fun _ _ _ _ _ => (pe_lc (own := [("_law_two", 12)]) (by rfl) sc_law.nd (pi_listK (K := K) rfl (pv 6)) (blkOk_by (own := [("_law_two", 12)]) (N := ["_law_script", "_law_deck_here", "_law_lap", "_law_k", "_law_forms", "_law_form_here", "_law_pool", "_law_kind", "_law_items", "_law_many", "_law_at", "_law_one", "_law_two", "_law_alike_due", "_law_it"]) (sc := _) (by kernel_rfl)) (fun _ _ _ _ _ => (pg_name (i := 12) sc_law.nd rfl (Or.inl rfl))) (fun _ _ _ _ _ => pts_nil) (fun _ _ _ _ _ => (pe_cmpR (op_eqvK02 (K := K) (k := 1) (j := 75) rfl o_eq hr (by omega)) (pv 11) (pv 12) (nomark _)))))) (pv 13) (nomark _)) (pss_one (ps_ret pe_bl)) (pss_nil))
 (pss_cons (ps_if (pt_cmpR (op_neD hr.units) (pe_lc (own := [("_law_one", 11)]) (by rfl) sc_law.nd (pi_list (pv 6)) (blkOk_by (own := [("_law_one", 11)]) (N := ["_law_script", "_law_deck_here", "_law_lap", "_law_k", "_law_forms", "_law_form_here", "_law_pool", "_law_kind", "_law_items", "_law_many", "_law_at", "_law_one", "_law_two", "_law_alike_due", "_law_it"]) (sc := defScope s_law) (by decide +kernel)) (fun _ _ _ _ _ => (pg_name (i := 11) sc_law.nd rfl (Or.inr rfl))) (fun _ _ _ _ _ => pts_nil) (fun _ _ _ _ _ => (pe_lc (own := [("_law_two", 12)]) (by rfl) sc_law.nd (pi_listK (K := K) rfl (pv 6)) (blkOk_by (own := [("_law_two", 12)]) (N := ["_law_script", "_law_deck_here", "_law_lap", "_law_k", "_law_forms", "_law_form_here", "_law_pool", "_law_kind", "_law_items", "_law_many", "_law_at", "_law_one", "_law_two", "_law_alike_due", "_law_it"]) (sc := _) (by kernel_rfl)) (fun _ _ _ _ _ => (pg_name (i := 12) sc_law.nd rfl (Or.inl rfl))) (fun _ _ _ _ _ => pts_nil) (fun _ _ _ _ _ => (pe_not (pe_cmpR (op_nevK02 (K := K) (k := 1) (j := 75) rfl o_eq Z.y0 hr (by omega)) (pv 11) (pv 12) (nomark _))))))) (pv 13) (nomark _)) (pss_one (ps_ret pe_bl)) (pss_nil))
 (pss_cons (ps_if (pt_cmpR (op_neE hr.units) (pe_lc (own := [("_law_one", 11)]) (by rfl) sc_law.nd (pi_list (pv 6)) (blkOk_by (own := [("_law_one", 11)]) (N := ["_law_script", "_law_deck_here", "_law_lap", "_law_k", "_law_forms", "_law_form_here", "_law_pool", "_law_kind", "_law_items", "_law_many", "_law_at", "_law_one", "_law_two", "_law_alike_due", "_law_it"]) (sc := defScope s_law) (by decide +kernel)) (fun _ _ _ _ _ => (pg_name (i := 11) sc_law.nd rfl (Or.inl rfl))) (fun _ _ _ _ _ => pts_one (PW.pt (pw_or (pt_cmpR (op_eqvK02 (K := K) (k := 1) (j := 75) rfl o_eq hr (by omega)) (pv 11) (pe_callTy (call_str_opn o_str hr (by omega)) (by rfl) B.str bt_str (pa_cons (pv 11) pa_nil)) (nomark _)) (pw_or (pt_cmpR (op_eqvK02 (K := K) (k := 1) (j := 75) rfl o_eq hr (by omega)) (pv 11) (pe_fldK (K := K) rfl (pv 11) rfl) (nomark _)) (pw_or1 (pt_cmpR (op_eqvK02 (K := K) (k := 1) (j := 75) rfl o_eq hr (by omega)) (pv 11) (pe_c c_law_odd hr (by omega) (by rfl) (pa_cons (pv 1) pa_nil)) (nomark _))))))) (fun _ _ _ _ _ => (pv 11))) (pe_lst pa_nil) (nomark _)) (pss_one (ps_ret pe_bl)) (pss_nil))
 (pss_one (ps_if (PW.pt (pw_or (pt_not (pt_val (pe_cg c_law_atom_right hg hr (by omega) (by rfl) (pa_cons (pe_c c_law_odd hr (by omega) (by rfl) (pa_cons (pv 1) pa_nil)) pa_nil)))) (pw_or1 (pt_not (pt_val (pe_cg c_law_atom_right hg hr (by omega) (by rfl) (pa_cons (pe_c c_law_pick hr (by omega) (by rfl) (pa_cons (pv 1) (pa_cons pe_str pa_nil))) pa_nil))))))) (pss_one (ps_ret pe_bl)) (pss_nil))))))))))))))
 (pss_one (ps_ret (pe_cmpR (op_eqE hr.units) (pe_lc (own := [("_law_it", 14)]) (by rfl) sc_law.nd (pi_list (pe_op op_cat (pe_callTy (cr_listX rfl) (by rfl) B.list bt_list (pa_cons pe_str pa_nil)) (pe_lst (pa_cons pe_str pa_nil)))) (blkOk_by (own := [("_law_it", 14)]) (N := ["_law_script", "_law_deck_here", "_law_lap", "_law_k", "_law_forms", "_law_form_here", "_law_pool", "_law_kind", "_law_items", "_law_many", "_law_at", "_law_one", "_law_two", "_law_alike_due", "_law_it"]) (sc := defScope s_law) (by decide +kernel)) (fun _ _ _ _ _ => (pg_name (i := 14) sc_law.nd rfl (Or.inl rfl))) (fun _ _ _ _ _ => pts_one (pt_not (pt_val (pe_cg c_law_atom_right hg hr (by omega) (by rfl) (pa_cons (pv 14) pa_nil))))) (fun _ _ _ _ _ => (pv 14))) (pe_lst pa_nil) (nomark _))))), ?_⟩
  rintro ds W post ⟨ns, rfl, rfl, hns, k⟩
  try dsimp only [cxOf, Cx.nox, Cx.wish]
  have h16 := sizeLine_eq
  walk_at "st"
  refine handA ⟨ns, rfl, rfl, hns, fun a W hd => ?_⟩
  try walk_at "st"
  refine sw_for (ei_rng1 ?_)
  walk_at "st"
  refine ⟨by omega, by omega, fun i G W => ∃ Wd, Wd.Sublist W ∧ DkA a (1000 * (i : Nat)) Wd ∧ ∃ o2 o3 o4 o5 o6 o7 o8 o9 o10 o11 o12 o13 o14, G = [some (.scr (ns.map V.int)), some (.adr a), o2, o3, o4, o5, o6, o7, o8, o9, o10, o11, o12, o13, o14], ⟨W, List.Sublist.refl _, DkA_mono hd (by omega), _, _, _, _, _, _, _, _, _, _, _, _, _, rfl⟩, ?_, ?_⟩
  · rintro lap d G' W' hdd ⟨Wd, hsub, hd, o2, o3, o4, o5, o6, o7, o8, o9, o10, o11, o12, o13, o14, rfl⟩
    obtain ⟨hlap, rfl⟩ := rng_get hdd
    have hlap : lap < 8 := by simpa using hlap
    refine tg_name ?_
    refine sw_drp hsub ?_
    refine sw_seq (sw_set (ev_lcF (ei_rng1 ?_)))
    walk_at "st"
    refine ⟨by omega, by omega, fun i acc W' => ∃ fs : List Fm, acc = fs.map Fm.tr ∧ fs.length = i ∧ (∀ f ∈ fs, sm3 f) ∧ DkA a (1000 * (lap : Nat) + 50 * (i : Nat)) W', ⟨[], rfl, rfl, by simp, DkA_mono hd (by omega)⟩, ?_, ?_⟩
    · rintro i d acc W' hdd ⟨fs, rfl, hl, hf, hd⟩
      obtain ⟨hi, rfl⟩ := rng_get hdd
      have hi : i < 3 := by simpa using hi
      refine tw_name (by simp) ?_
      walk_at "st"
      refine handA ⟨a, _, 4, rfl, hd, by omega, by omega, by omega, fun n W2 n0 n1 hd2 => ?_⟩
      try walk_at "st"
      obtain ⟨n, rfl⟩ := Int.eq_ofNat_of_zero_le n0
      have hpw : (2 : Int) ^ n ≤ 8 := by
        have : (2 : Nat) ^ n ≤ 2 ^ 3 := Nat.pow_le_pow_right (by omega) (by omega)
        have e : ((2 ^ n : Nat) : Int) = (2 : Int) ^ n := by rw [Int.natCast_pow]; rfl
        omega
      refine handA ⟨a, _, "abPQ", n, rfl, hd2, by omega, by omega, by unfold letters; decide +kernel, by decide, by decide, by omega, fun f W3 f1 f2 hd3 => ?_⟩
      try walk_at "st"
      refine ⟨by rw [List.length_map]; omega, fs ++ [f], by simp, by simp [hl], fun g hg => ?_, DkA_mono hd3 (by push_cast; omega)⟩
      rcases List.mem_append.mp hg with hg | hg
      · exact hf g hg
      · rw [List.mem_singleton.mp hg]
        exact ⟨f1, by omega⟩
    rintro acc W1 ⟨fs, rfl, hl, hf, hd1⟩
    rw [rng_len] at hl hd1
    have hl : fs.length = 3 := hl
    refine sw_seq (sw_set (ev_lcM (ei_list ?_)))
    walk_at "st"
    refine ⟨fs.map D.fm, fun i d e hd he => ?_, by rw [List.length_map, List.length_map], by rw [List.length_map]; omega, ?_⟩
    · rw [List.getElem?_map] at hd he
      obtain ⟨f, hp, rfl⟩ := Option.map_eq_some_iff.mp hd
      rw [hp] at he
      obtain rfl := Option.some.inj he
      have hs := hf f (List.mem_of_getElem? hp)
      refine tw_name (by simp) ?_
      walk_at "st"
      refine ⟨rfl, ?_⟩
      walk_at "st"
      refine hand0 ⟨f, rfl, rfl, by have := hs.ht; omega, hs.okF, ?_⟩
      try simp only [List.nil_append]
      try walk_at "st"
      exact ⟨trivial, trivial⟩
    walk_at "st"
    refine handA ⟨a, _, rfl, hd1, by omega, fun od q W2 ho hok hd2 => ?_⟩
    try walk_at "st"
    walk_at "st"
    refine handA ⟨a, _, _, rfl, hd2, by omega, .inl ⟨_, .inl rfl, by simp, by simp, fun kd hkd W3 hd3 => ?_⟩⟩
    try walk_at "st"
    have hkd : Kd02 kd := by
      simp only [List.mem_cons, List.not_mem_nil, or_false] at hkd
      rcases hkd with rfl | rfl | rfl | rfl | rfl | rfl | rfl | rfl | rfl
      · exact .inl ⟨_, by decide +kernel, rfl⟩
      · exact .inl ⟨_, by decide +kernel, rfl⟩
      · exact .inl ⟨_, by decide +kernel, rfl⟩
      · exact .inl ⟨_, by decide +kernel, rfl⟩
      · exact .inl ⟨_, by decide +kernel, rfl⟩
      · exact .inl ⟨_, by decide +kernel, rfl⟩
      · exact hok
      · exact .inl ⟨_, by decide +kernel, rfl⟩
      · exact .inl ⟨_, by decide +kernel, rfl⟩
    walk_at "st"
    refine ev_lcF (ei_rng1 ?_)
    walk_at "st"
    refine handA ⟨a, _, 4, rfl, hd3, by omega, by omega, by omega, fun m W4 m0 m1 hd4 => ?_⟩
    try walk_at "st"
    refine ⟨by omega, by omega, fun i acc W' => ∃ its : List (D × Str), acc = its.map itD02 ∧ its.length = i ∧ (∀ p ∈ its, It02 p.1 p.2) ∧ DkA a (1000 * (lap : Nat) + 300 + 5 * (i : Nat)) W', ⟨[], rfl, rfl, by simp, DkA_mono hd4 (by omega)⟩, ?_, ?_⟩
    · rintro i d acc W' hdd ⟨its, rfl, hl2, hit, hd⟩
      obtain ⟨hi, rfl⟩ := rng_get hdd
      have hi : i < 4 := by have : i < m.toNat := by simpa using hi
                            omega
      refine tw_name (by simp) ?_
      walk_at "st"
      refine handA ⟨a, _, fs, rfl, hd, by omega, hl, hf, fun p W5 hp hd5 => ?_⟩
      try walk_at "st"
      refine ⟨by rw [List.length_map]; omega, its ++ [p], by simp, by simp [hl2], fun q hq => ?_, DkA_mono hd5 (by push_cast; omega)⟩
      rcases List.mem_append.mp hq with hq | hq
      · exact hit q hq
      · rw [List.mem_singleton.mp hq]
        exact hp
    rintro acc W5 ⟨its, rfl, hl2, hit, hd5⟩
    rw [rng_len] at hl2 hd5
    have hio : itsOk its := ⟨by omega, hit⟩
    refine sw_mid02 (fun G W => ∃ (its : List (D × Str)) (o3 o9 o10 : Option D), itsOk its ∧ DkA a (1000 * (lap : Nat) + 400) W ∧ G = [some (.scr (ns.map V.int)), some (.adr a), some (.int (0 + (lap : Nat))), o3, some (.lst (fs.map Fm.tr)), o5, some (.lst (fs.map D.fm)), some kd, some (.lst (its.map itD02)), o9, o10, o11, o12, o13, o14]) ?_ ?_
    · walk_at "st"
      refine handA ⟨a, _, 2, rfl, hd5, by omega, by omega, by omega, fun y W6 y0 y1 hd6 => ?_⟩
      try walk_at "st"
      refine if_dec (fun hy => ?_) (fun hy => ?_)
      · refine sw_mid02 (fun G W => ∃ (n : Nat) (o3 : Option D), n ≤ 2 ∧ W = W6 ∧ G = [some (.scr (ns.map V.int)), some (.adr a), some (.int (0 + (lap : Nat))), o3, some (.lst (fs.map Fm.tr)), o5, some (.lst (fs.map D.fm)), some kd, some (.lst (its.map itD02)), some (natD n), o10, o11, o12, o13, o14]) ?_ ?_
        · rcases hkd with ⟨s, hs, rfl⟩ | ⟨q, hq, hn⟩
          · obtain ⟨n, hn2, e⟩ := many02 hs
            walk_at "st"
            refine ev_dget2 ?_
            walk_at "st"
            refine ⟨by decide, ⟨manG, .inl rfl⟩, ?_⟩
            refine ev_var rfl (ev_c ⟨manG, Sum.inr s, .inl rfl, rfl, ?_⟩)
            rw [e]
            exact ⟨n, _, hn2, rfl, rfl⟩
          · walk_at "st"
            refine isi_notStr hn ?_
            refine ⟨_, rfl, if_not rfl ?_⟩
            walk_at "st"
            exact ⟨2, _, by decide, rfl, rfl⟩
        · rintro G' W' ⟨n, o3, hn2, rfl, rfl⟩
          refine sw_seq (sw_set (ev_lcM (ei_rng1 ?_)))
          walk_at "st"
          refine ⟨by omega, by omega, ((fs.take n).map fun f => ((D.fm f, "formula") : D × Str)).map itD02, fun i d e hd he => ?_, by rw [List.length_map, List.length_map, List.length_take, rng_len]; omega, by rw [List.length_map, List.length_map, List.length_take]; omega, ?_⟩
          · obtain ⟨hi, hdq⟩ := rng_get hd
            obtain rfl : d = natD i := by rw [hdq]; simp [natD]
            rw [List.map_map, List.getElem?_map] at he
            obtain ⟨f, hp, rfl⟩ := Option.map_eq_some_iff.mp he
            rw [List.getElem?_take] at hp
            have hi : i < n := by simpa using hi
            rw [if_pos hi] at hp
            refine tw_name (by simp) ?_
            walk_at "st"
            refine ⟨rfl, ?_⟩
            walk_at "st"
            refine bo_ixL (.inl (.inl rfl)) (atI_nat02 (show (fs.map D.fm)[i]? = some (.fm f) by rw [List.getElem?_map, hp]; rfl)) ?_
            walk_at "st"
            exact ⟨rfl, rfl⟩
          have hio2 : itsOk ((fs.take n).map fun f => ((D.fm f, "formula") : D × Str)) := ⟨by rw [List.length_map, List.length_take]; omega, fun p hp => by
            obtain ⟨f, hm, rfl⟩ := List.mem_map.mp hp
            exact .fm f (hf f (List.mem_of_mem_take hm))⟩
          have hln : ((fs.take n).map fun f => ((D.fm f, "formula") : D × Str)).length = n := by rw [List.length_map, List.length_take]; omega
          generalize (fs.take n).map (fun f => ((D.fm f, "formula") : D × Str)) = its2 at hio2 hln ⊢
          walk_at "st"
          refine bo_neE (.inl (.inl rfl)) (.inl (.inl rfl)) ?_
          refine ⟨_, rfl, ?_⟩
          by_cases hn0 : n = 0
          · subst hn0
            obtain rfl := List.eq_nil_of_length_eq_zero hln
            refine if_not rfl ?_
            refine sw_next ?_
            exact ⟨[], _, _, _, hio2, DkA_mono hd6 (by omega), rfl⟩
          refine if_so (by cases its2 with | nil => exact absurd hln.symm hn0 | cons => rfl) ?_
          walk_at "st"
          refine handA ⟨a, _, 2, rfl, hd6, by omega, by omega, by omega, fun z W7 z0 z1 hd7 => ?_⟩
          try walk_at "st"
          refine if_dec (fun hz => ?_) (fun hz => ?_)
          · walk_at "st"
            refine handA ⟨a, _, _, rfl, hd7, by rw [List.length_map]; omega, by rw [List.length_map]; omega, by omega, fun j W8 j0 j1 hd8 => ?_⟩
            try walk_at "st"
            obtain ⟨j, rfl⟩ := Int.eq_ofNat_of_zero_le j0
            refine handA ⟨a, _, fs, rfl, hd8, by omega, hl, hf, fun p W9 hp hd9 => ?_⟩
            try walk_at "st"
            rw [List.length_map] at j1
            rw [cutD_pre02]
            refine bo_cat (.inl rfl) (.inl rfl) (by rw [List.length_take, List.length_map]; show _ + 1 ≤ _; omega) ?_
            walk_at "st"
            rw [show ((j : Nat) : Int) + 1 = ((j + 1 : Nat) : Int) from rfl, cutD_suf02]
            refine bo_cat (.inl rfl) (.inl rfl) (by rw [List.length_append, List.length_take, List.length_drop, List.length_map]; show _ + 1 + _ ≤ _; omega) ?_
            refine ⟨its2.take j ++ [p] ++ its2.drop (j + 1), o3, some (natD n), some (.int ((j : Nat) : Int)), ⟨by rw [List.length_append, List.length_append, List.length_take, List.length_drop]; show _ + 1 + _ ≤ _; omega, fun q hq => ?_⟩, DkA_mono hd9 (by omega), ?_⟩
            · rcases List.mem_append.mp hq with hq | hq
              · rcases List.mem_append.mp hq with hq | hq
                · exact hio2.2 q (List.mem_of_mem_take hq)
                · rw [List.mem_singleton.mp hq]
                  exact hp
              · exact hio2.2 q (List.mem_of_mem_drop hq)
            · simp only [List.map_append, List.map_take, List.map_drop, List.map_cons, List.map_nil]
              rfl
          · refine sw_next ?_
            exact ⟨its2, _, _, _, hio2, DkA_mono hd7 (by omega), rfl⟩
      · refine sw_next ?_
        exact ⟨its, _, _, _, hio, DkA_mono hd6 (by omega), rfl⟩
    rintro G' W' ⟨its, o3, o9, o10, hio, hd7, rfl⟩
    walk_at "st"
    refine hand0 ⟨kd, its, rfl, rfl, hkd, hio, fun W8 => ?_⟩
    try simp only [List.nil_append]
    try walk_at "st"
    refine ev_lcM (ei_list ?_)
    walk_at "st"
    refine ⟨fs.map fun f => .lst (fs.map fun g => .bl (decide (f.spell = g.spell))), fun i d e hd he => ?_, by rw [List.length_map, List.length_map], by rw [List.length_map]; omega, ?_⟩
    · rw [List.getElem?_map] at hd he
      obtain ⟨f, hp, rfl⟩ := Option.map_eq_some_iff.mp hd
      rw [hp] at he
      obtain rfl := Option.some.inj he
      have hs := hf f (List.mem_of_getElem? hp)
      refine tw_name (by simp) ?_
      walk_at "st"
      refine ⟨rfl, ?_⟩
      refine ev_lcM (ei_list ?_)
      walk_at "st"
      refine ⟨fs.map fun g => .bl (decide (f.spell = g.spell)), fun i2 d2 e2 hd2 he2 => ?_, by rw [List.length_map, List.length_map], by rw [List.length_map]; omega, ?_⟩
      · rw [List.getElem?_map] at hd2 he2
        obtain ⟨g, hp2, rfl⟩ := Option.map_eq_some_iff.mp hd2
        rw [hp2] at he2
        obtain rfl := Option.some.inj he2
        have hs2 := hf g (List.mem_of_getElem? hp2)
        refine tw_name (by simp) ?_
        walk_at "st"
        refine ⟨rfl, ?_⟩
        walk_at "st"
        refine hand0 ⟨f, rfl, rfl, by have := hs.ht; omega, hs.okF.sz, ?_⟩
        try simp only [List.nil_append]
        try walk_at "st"
        refine hand0 ⟨g, rfl, rfl, by have := hs2.ht; omega, hs2.okF.sz, ?_⟩
        try simp only [List.nil_append]
        try walk_at "st"
        first | exact ⟨rfl, rfl⟩ | exact ⟨trivial, trivial⟩ | trivial
      · first | exact ⟨rfl, rfl⟩ | exact ⟨trivial, trivial⟩ | trivial
    have erow : (fs.map fun f => D.lst (fs.map fun g => .bl (decide (f.spell = g.spell)))) = (fs.map fun f => fs.map fun g => decide (f.spell = g.spell)).map fun l => .lst (l.map D.bl) := by
      rw [List.map_map]
      refine List.map_congr_left fun f _ => ?_
      show _ = D.lst ((fs.map fun g => decide (f.spell = g.spell)).map D.bl)
      rw [List.map_map]
      rfl
    refine sw_drp (List.sublist_append_right W8 W') ?_
    walk_at "st"
    refine ev_lcM (ei_list ?_)
    walk_at "st"
    refine ⟨fs.map fun f => .lst (fs.map fun g => .bl (decide (f.spell = g.spell))), fun i d e hd he => ?_, by rw [List.length_map, List.length_map], by rw [List.length_map]; omega, ?_⟩
    · rw [List.getElem?_map] at hd he
      obtain ⟨f, hp, rfl⟩ := Option.map_eq_some_iff.mp hd
      rw [hp] at he
      obtain rfl := Option.some.inj he
      refine tw_name (by simp) ?_
      walk_at "st"
      refine ⟨rfl, ?_⟩
      refine ev_lcM (ei_list ?_)
      walk_at "st"
      refine ⟨fs.map fun g => .bl (decide (f.spell = g.spell)), fun i2 d2 e2 hd2 he2 => ?_, by rw [List.length_map, List.length_map], by rw [List.length_map]; omega, ?_⟩
      · rw [List.getElem?_map] at hd2 he2
        obtain ⟨g, hp2, rfl⟩ := Option.map_eq_some_iff.mp hd2
        rw [hp2] at he2
        obtain rfl := Option.some.inj he2
        refine tw_name (by simp) ?_
        walk_at "st"
        refine ⟨rfl, ?_⟩
        walk_at "st"
        refine bo_eqV (Inst.fm f) (tyd_ins (Inst.fm g) Z.z0.ins) notFirst_self ?_
        refine handA ⟨f, .fm g, rfl, .inl ⟨g, rfl, ⟨_, rfl⟩, ?_⟩⟩
        try walk_at "st"
        first | exact ⟨rfl, rfl⟩ | exact ⟨trivial, trivial⟩ | trivial
      · first | exact ⟨rfl, rfl⟩ | exact ⟨trivial, trivial⟩ | trivial
    walk_at "st"
    rw [erow]
    refine bo_neBB _ ?_
    refine ⟨_, rfl, if_not rfl ?_⟩
    rw [← erow]
    walk_at "st"
    refine ev_lcM (ei_list ?_)
    walk_at "st"
    refine ⟨fs.map fun f => .lst (fs.map fun g => .bl (decide (f.spell = g.spell))), fun i d e hd he => ?_, by rw [List.length_map, List.length_map], by rw [List.length_map]; omega, ?_⟩
    · rw [List.getElem?_map] at hd he
      obtain ⟨f, hp, rfl⟩ := Option.map_eq_some_iff.mp hd
      rw [hp] at he
      obtain rfl := Option.some.inj he
      refine tw_name (by simp) ?_
      walk_at "st"
      refine ⟨rfl, ?_⟩
      refine ev_lcM (ei_list ?_)
      walk_at "st"
      refine ⟨fs.map fun g => .bl (decide (f.spell = g.spell)), fun i2 d2 e2 hd2 he2 => ?_, by rw [List.length_map, List.length_map], by rw [List.length_map]; omega, ?_⟩
      · rw [List.getElem?_map] at hd2 he2
        obtain ⟨g, hp2, rfl⟩ := Option.map_eq_some_iff.mp hd2
        rw [hp2] at he2
        obtain rfl := Option.some.inj he2
        refine tw_name (by simp) ?_
        walk_at "st"
        refine ⟨rfl, ?_⟩
        walk_at "st"
        refine bo_neV (Inst.fm f) (tyd_ins (Inst.fm g) Z.z0.ins) notFirst_self ?_
        refine handA ⟨f, .fm g, rfl, .inl ⟨g, rfl, _, rfl, ?_⟩⟩
        try walk_at "st"
        exact ⟨by rw [Bool.not_not], rfl⟩
      · first | exact ⟨rfl, rfl⟩ | exact ⟨trivial, trivial⟩ | trivial
    walk_at "st"
    rw [erow]
    refine bo_neBB _ ?_
    refine ⟨_, rfl, if_not rfl ?_⟩
    walk_at "st"
    refine ev_lcF (ei_list ?_)
    walk_at "st"
    refine ⟨fun i acc W' => acc = [] ∧ DkA a (1000 * (lap : Nat) + 400 + (i : Nat)) W', ⟨rfl, DkA_mono hd7 (by omega)⟩, ?_, ?_⟩
    · rintro i d acc W' hd ⟨rfl, hdk⟩
      rw [List.getElem?_map] at hd
      obtain ⟨f, hp, rfl⟩ := Option.map_eq_some_iff.mp hd
      have hi : i < fs.length := (List.getElem?_eq_some_iff.mp hp).1
      refine tw_name (by simp) ?_
      walk_at "st"
      refine hand0 ⟨f, rfl, rfl, ⟨_, rfl⟩, ?_⟩
      try simp only [List.nil_append]
      try walk_at "st"
      refine bo_eqV (Inst.fm f) tyd_str Z.nf0_str ?_
      refine handA ⟨f, .str f.spell, rfl, .inr ⟨.inl ⟨_, rfl⟩, ⟨_, rfl⟩, ?_⟩⟩
      try walk_at "st"
      refine bo_eqV (Inst.fm f) tyd_tup Z.nf0_tup ?_
      refine handA ⟨f, .tup (partsD f), rfl, .inr ⟨.inr (.tup _), ⟨_, rfl⟩, ?_⟩⟩
      try walk_at "st"
      refine handA ⟨a, _, rfl, hdk, by omega, fun od q W9 ho hok hd9 => ?_⟩
      try walk_at "st"
      obtain ⟨t, ht, hty⟩ := od_ty (F := FK) (T := ⟨K, cl⟩) (W := W9) ho
      have hnf : PySem.W.notFirst K (cl 0) (.type t) = true := by
        simp only [List.mem_cons, List.not_mem_nil, or_false] at ht
        rcases ht with rfl | rfl | rfl | rfl | rfl | rfl | rfl
        · exact Z.nf0_str
        · exact Z.nf0_int
        · exact Z.nf0_bool
        · exact Z.nf0_non
        · exact Z.nf0_tup
        · exact Z.nf0_lst
        · exact Z.nf0_dct
      refine bo_eqV (Inst.fm f) hty hnf ?_
      refine handA ⟨f, od, rfl, .inr ⟨ho.tv, ⟨_, rfl⟩, ?_⟩⟩
      try walk_at "st"
      exact ⟨trivial, DkA_mono hd9 (by push_cast; omega)⟩
    · rintro acc W9 ⟨rfl, hd9⟩
      rw [List.length_map, hl] at hd9
      walk_at "st"
      refine bo_neE (.inl (.inl rfl)) (.inl (.inl rfl)) ?_
      refine ⟨_, rfl, if_not rfl ?_⟩
      walk_at "st"
      refine handA ⟨a, _, rfl, hd9, by push_cast; omega, fun od q W10 ho hok hd10 => ?_⟩
      try walk_at "st"
      refine hand0 ⟨od, rfl, rfl, .inr ⟨q, ho⟩, fun W11 => ?_⟩
      try simp only [List.nil_append]
      try walk_at "st"
      refine ⟨W10, W11, List.perm_append_comm, a, _, _, rfl, hd10, by omega, .inr ⟨"abyzABYZnol", rfl, by decide +kernel, by decide +kernel, fun c hc W12 hd12 => ?_⟩⟩
      have hlt : ltr02 c := by
        have hc : c ∈ [97, 98, 121, 122, 65, 66, 89, 90, 110, 111, 108] := hc
        simp only [List.mem_cons, List.not_mem_nil, or_false] at hc
        unfold ltr02
        omega
      walk_at "st"
      refine hand0 ⟨.str (sg c), rfl, rfl, .inl ⟨c, hlt, rfl⟩, fun W13 => ?_⟩
      try simp only [List.nil_append]
      try walk_at "st"
      exact ⟨W12, (List.sublist_append_left W12 W11).trans (List.sublist_append_right W13 _), DkA_mono hd12 (by push_cast; omega), _, _, _, _, _, _, _, _, _, _, _, _, _, rfl⟩
  rintro G' W' ⟨Wd, hsub, hd, o2, o3, o4, o5, o6, o7, o8, o9, o10, o11, o12, o13, o14, rfl⟩
  walk_at "st"
  refine ev_lcF (ei_list ?_)
  walk_at "st"
  refine ca_listX (by decide) ?_
  walk_at "st"
  refine bo_cat (.inl rfl) (.inl rfl) (by show 12 ≤ _; omega) ?_
  refine ⟨_, rfl, fun i acc W' => acc = [], rfl, ?_, ?_⟩
  · rintro i d acc W' hd rfl
    have hv := signs02_ok d (List.mem_of_getElem? hd)
    refine tw_name (by simp) ?_
    walk_at "st"
    refine hand0 ⟨d, rfl, rfl, hv, fun W9 => ?_⟩
    try simp only [List.nil_append]
    try walk_at "st"
    trivial
  · rintro acc W' rfl
    walk_at "st"
    refine bo_eqE (.inl (.inl rfl)) (.inl (.inl rfl)) ?_
    exact k _
end
end N
set_option Elab.async false
set_option linter.all false
set_option maxRecDepth 100000
namespace N
open PySem PySem.Spec PyProof.Rows L2
open C8 (Cal Met Mak InsC)
set_option maxHeartbeats 4000000
theorem all_mk {P : Program} {w : World} {K : PySem.W.Frag} {h base : Heap} {mg : Str → Option Value} {fa : Addr} (X : K.In h) (G : h.Ns mainGlobals mg) (hfa : mg "law" = some (.ref fa)) (hw : w = w)
    {C0 : Addr} {C11 : Addr}
    {t0 : PySem.Tok}
    {t1 : PySem.Tok}
    {t2 : PySem.Tok}
    {t3 : PySem.Tok}
    {t4 : PySem.Tok}
    {dd5 : Addr} {es5 : Array DictEntry} {en5 : Nat} {u5_0 : PySem.Tok} {u5_1 : PySem.Tok} {u5_2 : PySem.Tok} {u5_3 : PySem.Tok}
    {t6 : PySem.Tok}
    {t7 : PySem.Tok}
    
    {nme11 qne11 : Str} {NAe11 : Addr} {bse11 : List Value} {sne11 : List Str} {sube11 : List Value} {abe11 : Bool} {coe11 : Option Bool} {dde11 : Option Addr} {x0e11 x1e11 x2e11 x3e11 x5e11 : Option Value}
    {CW : Addr}
    {f1 : Addr} {fd1 : FuncData}
    {f2 : Addr} {fd2 : FuncData}
    {f3 : Addr} {fd3 : FuncData}
    {f4 : Addr} {fd4 : FuncData}
    {f5 : Addr} {fd5 : FuncData}
    {f6 : Addr} {fd6 : FuncData}
    {f7 : Addr} {fd7 : FuncData}
    {f8 : Addr} {fd8 : FuncData}
    {f9 : Addr} {fd9 : FuncData}
    {f10 : Addr} {fd10 : FuncData}
    {f11 : Addr} {fd11 : FuncData}
    {f12 : Addr} {fd12 : FuncData}
    {f13 : Addr} {fd13 : FuncData}
    {f14 : Addr} {fd14 : FuncData}
    {f15 : Addr} {fd15 : FuncData}
    {f16 : Addr} {fd16 : FuncData}
    {f17 : Addr} {fd17 : FuncData}
    {f18 : Addr} {fd18 : FuncData}
    {f19 : Addr} {fd19 : FuncData}
    {f20 : Addr} {fd20 : FuncData}
    {f21 : Addr} {fd21 : FuncData}
    {f22 : Addr} {fd22 : FuncData}
    {f23 : Addr} {fd23 : FuncData}
    {f24 : Addr} {fd24 : FuncData}
    {f25 : Addr} {fd25 : FuncData}
    {f26 : Addr} {fd26 : FuncData}
    (z0 : PySem.W.nsIn K mainGlobals "len" = some none)
    (z1 : PySem.W.nsIn K mainGlobals "int" = some none)
    (z2 : PySem.W.nsIn K mainGlobals "str" = some none)
    (z3 : PySem.W.nsIn K mainGlobals "range" = some none)
    (z4 : PySem.W.nsIn K mainGlobals "list" = some none)
    (z5 : PySem.W.nsIn K mainGlobals "tuple" = some none)
    (z6 : PySem.W.nsIn K mainGlobals "dict" = some none)
    (z7 : PySem.W.nsIn K mainGlobals "set" = some none)
    (z8 : PySem.W.nsIn K mainGlobals "sorted" = some none)
    (z9 : PySem.W.nsIn K mainGlobals "isinstance" = some none)
    (z10 : PySem.W.nsIn K mainGlobals "repr" = some none)
    (z11 : PySem.W.nsIn K mainGlobals "max" = some none)
    (z12 : PySem.W.nsIn K mainGlobals "min" = some none)
    (z13 : PySem.W.nsIn K mainGlobals "sum" = some none)
    (z14 : PySem.W.nsIn K mainGlobals "all" = some none)
    (z15 : PySem.W.nsIn K mainGlobals "any" = some none)
    (z16 : PySem.W.nsIn K mainGlobals "zip" = some none)
    (z17 : PySem.W.nsIn K mainGlobals "enumerate" = some none)
    (z18 : PySem.W.nsIn K mainGlobals "bool" = some none)
    (z19 : PySem.W.nsIn K mainGlobals "reversed" = some none)
    (z20 : PySem.W.nsIn K mainGlobals "type" = some none)
    (s0 : PySem.W.nsIn K mainGlobals "LETTERS" = some (some (.str "ABCDEFGHIJKLMNOPQRSTUVWXYZabcdefghijklmnopqrstuvwxyz" t0)))
    (s1 : PySem.W.nsIn K mainGlobals "ATOM" = some (some (.str "atom" t1)))
    (s2 : PySem.W.nsIn K mainGlobals "NO" = some (some (.str "no" t2)))
    (s3 : PySem.W.nsIn K mainGlobals "IF" = some (some (.str "if" t3)))
    (s4 : PySem.W.nsIn K mainGlobals "ALL" = some (some (.str "all" t4)))
    (aP5 : PySem.W.nsIn K mainGlobals "PARTS_OF" = some (some (.ref dd5)))
    (lP5 : K.lookup dd5 = some ⟨.type "dict", none, .dict es5 en5, #[]⟩)
    (lit5 : PySem.W.KeysLit w.params es5.toList)
    (low5 : (dd5 == sysModules) = false)
    (p5_0 : PySem.W.nsIn K dd5 "atom" = some (some (.int 1 u5_0)))
    (p5_1 : PySem.W.nsIn K dd5 "no" = some (some (.int 0 u5_1)))
    (p5_2 : PySem.W.nsIn K dd5 "if" = some (some (.int 2 u5_2)))
    (p5_3 : PySem.W.nsIn K dd5 "all" = some (some (.int 1 u5_3)))
    (s6 : PySem.W.nsIn K mainGlobals "ALL_AHEAD" = some (some (.str "all " t6)))
    (s7 : PySem.W.nsIn K mainGlobals "BETWEEN" = some (some (.str " > " t7)))
    (aC0 : PySem.W.nsIn K mainGlobals "Formula" = some (some (.ref C0)))
    (pg0 : PySem.W.plainGet K C0 Str.empty = true)
    (hd0 : PySem.W.hasDictIn K C0 = true)
    (po0 : PySem.W.plainOver K C0 = true)
    (sa0 : PySem.W.findIn K (.ref C0) "__setattr__" = some (some (.builtin "object.__setattr__")))
    (mk0 : PySem.W.makesIn K C0 = true)
    (kc0 : PySem.W.keepIn K (.ref C0) = true)
    (n0_0 : PySem.W.findIn K (.ref C0) "kind" = some none)
    (n0_1 : PySem.W.findIn K (.ref C0) "parts" = some none)
    (n0_2 : PySem.W.findIn K (.ref C0) "many" = some none)
    (n0_3 : PySem.W.findIn K (.ref C0) "deepest" = some none)
    (n0_4 : PySem.W.findIn K (.ref C0) "atoms" = some none)
    (n0_5 : PySem.W.findIn K (.ref C0) "bare" = some none)
    (n0_6 : PySem.W.findIn K (.ref C0) "spelled" = some none)
    (n0_7 : PySem.W.findIn K (.ref C0) "alls_known" = some none)
    (ha0 : PySem.W.findIn K (.ref C0) "__class__" = some (some (.builtin "object.__class__")))
    (hn0 : PySem.W.specialIn K (.builtin "object.__class__") "__get__" = some (some (.builtin "getset_descriptor.__get__")))
    (htk0 : PySem.W.takesIn K (.builtin "object.__class__") = some true)
    (hmo0 : PySem.W.mroIn K C0 (.type "object") = some true)
    (me0 : PySem.W.kitOne K (.ref C0) (.ref C0) = some true)
    (sf0 : PySem.W.selfFirst K C0 = true)
    (is0 : PySem.W.kitOne K (.type "str") (.ref C0) = some false)
    (ne0 : PySem.W.findIn K (.ref C0) "__ne__" = some (some (.builtin "object.__ne__")))
    (qn0_0 : PySem.W.kitOne K (.type "NoneType") (.ref C0) = some false)
    (qn0_1 : PySem.W.kitOne K (.type "bool") (.ref C0) = some false)
    (qn0_2 : PySem.W.kitOne K (.type "int") (.ref C0) = some false)
    (qn0_3 : PySem.W.kitOne K (.type "tuple") (.ref C0) = some false)
    (qn0_4 : PySem.W.kitOne K (.type "list") (.ref C0) = some false)
    (qn0_5 : PySem.W.kitOne K (.type "dict") (.ref C0) = some false)
    (aC11 : PySem.W.nsIn K mainGlobals "BadFormula" = some (some (.ref C11)))
    (xL11 : K.lookup C11 = some (PySem.excClassObj nme11 qne11 C11 NAe11 bse11 [.ref CW, .type "Exception", .type "BaseException", .type "object"] true sne11 sube11 abe11 coe11 dde11 x0e11 x1e11 x2e11 x3e11 x5e11 "Exception.__new__"))
    (sa11 : PySem.W.findIn K (.ref C11) "__setattr__" = some (some (.builtin "object.__setattr__")))
    (eC11 : PySem.W.subIn K (.ref C11) (.type "BaseException") = some true)
    (tC11 : PySem.W.typeIn K (.ref C11) = some (.type "type"))
    (kc11 : PySem.W.keepIn K (.ref C11) = true)
    (ga11 : PySem.W.findIn K (.ref C11) "__getattribute__" = some (some (.builtin "BaseException.__getattribute__")))
    (gg11 : PySem.W.findIn K (.ref C11) "__getattr__" = some none)
    (hd11 : PySem.W.hasDictIn K C11 = true)
    (no11 : PySem.W.findIn K (.ref C11) "value" = some none)
    (ik11_11 : PySem.W.kitOne K (.ref C11) (.ref C11) = some true)
    (it0_str : PySem.W.kitOne K (.ref C0) (.type "str") = some false)
    (ha11 : PySem.W.findIn K (.ref C11) "__class__" = some (some (.builtin "object.__class__")))
    (hn11 : PySem.W.specialIn K (.builtin "object.__class__") "__get__" = some (some (.builtin "getset_descriptor.__get__")))
    (htk11 : PySem.W.takesIn K (.builtin "object.__class__") = some true)
    (hmo11 : PySem.W.mroIn K C11 (.type "object") = some true)
    (xm11_11 : PySem.W.exmOne K (.ref C11) (.ref C11) = some true)
    (gf_noK : kdNo K dd5 ["not", "If", "", "ab", "1", " ", "(", "all a"] = true)
    (gf_nf0_str : PySem.W.notFirst K C0 (.type "str") = true)
    (gf_nf0_int : PySem.W.notFirst K C0 (.type "int") = true)
    (gf_nf0_bool : PySem.W.notFirst K C0 (.type "bool") = true)
    (gf_nf0_non : PySem.W.notFirst K C0 (.type "NoneType") = true)
    (gf_nf0_tup : PySem.W.notFirst K C0 (.type "tuple") = true)
    (gf_nf0_lst : PySem.W.notFirst K C0 (.type "list") = true)
    (gf_nf0_dct : PySem.W.notFirst K C0 (.type "dict") = true)
    (aCW : PySem.W.nsIn K mainGlobals "WebError" = some (some (.ref CW)))
    (rdW : PySem.W.readsIn K CW (.type "type") = true)
    (gaW : PySem.W.specialIn K (.ref CW) "__getattribute__" = some (some (.builtin "type.__getattribute__")))
    (inW : PySem.W.findCls K (.ref CW) (.type "type") "__init__" = some (.val (.builtin "Exception.__init__")))
    (a1 : PySem.W.findIn K (.ref C11) "__init__" = some (some (.ref f1)))
    (i1 : PySem.W.typeIn K (.ref f1) = some (.type "function"))
    (F1 : Fun K "__init__" "BadFormula.__init__" s_BadFormula___init__ f1 fd1)
    (a2 : PySem.W.nsIn K mainGlobals "united" = some (some (.ref f2)))
    (F2 : Fun K "united" "united" s_united f2 fd2)
    (a3 : PySem.W.nsIn K mainGlobals "merged" = some (some (.ref f3)))
    (F3 : Fun K "merged" "merged" s_merged f3 fd3)
    (a4 : PySem.W.nsIn K mainGlobals "is_atom" = some (some (.ref f4)))
    (F4 : Fun K "is_atom" "is_atom" s_is_atom f4 fd4)
    (a5 : PySem.W.findIn K (.ref C0) "__init__" = some (some (.ref f5)))
    (i5 : PySem.W.isFn K (.ref f5) = true)
    (F5 : Fun K "__init__" "Formula.__init__" s_Formula___init__ f5 fd5)
    (k5 : PySem.W.keepIn K (.ref f5) = true)
    (a6 : PySem.W.findIn K (.ref C0) "__init__" = some (some (.ref f6)))
    (i6 : PySem.W.isFn K (.ref f6) = true)
    (F6 : Fun K "__init__" "Formula.__init__" s_Formula___init__ f6 fd6)
    (k6 : PySem.W.keepIn K (.ref f6) = true)
    (a7 : PySem.W.findIn K (.ref C0) "__eq__" = some (some (.ref f7)))
    (i7 : PySem.W.isFn K (.ref f7) = true)
    (F7 : Fun K "__eq__" "Formula.__eq__" s_Formula___eq__ f7 fd7)
    (k7 : PySem.W.keepIn K (.ref f7) = true)
    (a8 : PySem.W.nsIn K mainGlobals "atom" = some (some (.ref f8)))
    (F8 : Fun K "atom" "atom" s_atom f8 fd8)
    (a9 : PySem.W.nsIn K mainGlobals "atom" = some (some (.ref f9)))
    (F9 : Fun K "atom" "atom" s_atom f9 fd9)
    (a10 : PySem.W.findIn K (.ref C0) "__str__" = some (some (.ref f10)))
    (i10 : PySem.W.isFn K (.ref f10) = true)
    (F10 : Fun K "__str__" "Formula.__str__" s_Formula___str__ f10 fd10)
    (k10 : PySem.W.keepIn K (.ref f10) = true)
    (a11 : PySem.W.nsIn K mainGlobals "_law_deck" = some (some (.ref f11)))
    (F11 : Fun K "_law_deck" "_law_deck" s_law_deck f11 fd11)
    (a12 : PySem.W.nsIn K mainGlobals "_law_draw" = some (some (.ref f12)))
    (F12 : Fun K "_law_draw" "_law_draw" s_law_draw f12 fd12)
    (a13 : PySem.W.nsIn K mainGlobals "_law_pick" = some (some (.ref f13)))
    (F13 : Fun K "_law_pick" "_law_pick" s_law_pick f13 fd13)
    (a14 : PySem.W.nsIn K mainGlobals "_law_form" = some (some (.ref f14)))
    (F14 : Fun K "_law_form" "_law_form" s_law_form f14 fd14)
    (a15 : PySem.W.nsIn K mainGlobals "_law_text" = some (some (.ref f15)))
    (F15 : Fun K "_law_text" "_law_text" s_law_text f15 fd15)
    (a16 : PySem.W.nsIn K mainGlobals "_law_built" = some (some (.ref f16)))
    (F16 : Fun K "_law_built" "_law_built" s_law_built f16 fd16)
    (a17 : PySem.W.nsIn K mainGlobals "_law_is_letter" = some (some (.ref f17)))
    (F17 : Fun K "_law_is_letter" "_law_is_letter" s_law_is_letter f17 fd17)
    (a18 : PySem.W.nsIn K mainGlobals "_law_odd" = some (some (.ref f18)))
    (F18 : Fun K "_law_odd" "_law_odd" s_law_odd f18 fd18)
    (a19 : PySem.W.nsIn K mainGlobals "_law_part" = some (some (.ref f19)))
    (F19 : Fun K "_law_part" "_law_part" s_law_part f19 fd19)
    (a20 : PySem.W.nsIn K mainGlobals "_law_due" = some (some (.ref f20)))
    (F20 : Fun K "_law_due" "_law_due" s_law_due f20 fd20)
    (a21 : PySem.W.nsIn K mainGlobals "_law_called" = some (some (.ref f21)))
    (F21 : Fun K "_law_called" "_law_called" s_law_called f21 fd21)
    (a22 : PySem.W.nsIn K mainGlobals "_law_is_same" = some (some (.ref f22)))
    (F22 : Fun K "_law_is_same" "_law_is_same" s_law_is_same f22 fd22)
    (a23 : PySem.W.nsIn K mainGlobals "_law_are_same" = some (some (.ref f23)))
    (F23 : Fun K "_law_are_same" "_law_are_same" s_law_are_same f23 fd23)
    (a24 : PySem.W.nsIn K mainGlobals "_law_right" = some (some (.ref f24)))
    (F24 : Fun K "_law_right" "_law_right" s_law_right f24 fd24)
    (a25 : PySem.W.nsIn K mainGlobals "_law_atom_right" = some (some (.ref f25)))
    (F25 : Fun K "_law_atom_right" "_law_atom_right" s_law_atom_right f25 fd25)
    (a26 : PySem.W.nsIn K mainGlobals "law" = some (some (.ref f26)))
    (F26 : Fun K "law" "law" s_law f26 fd26) :
    FnG P w K mg base 76 fa (spTop K) := by
  let cl : Nat → Addr := fun i => if i = 0 then C0 else C11
  have B : Blt mg := ⟨PySem.W.mg_none_of X G z0, PySem.W.mg_none_of X G z1, PySem.W.mg_none_of X G z2, PySem.W.mg_none_of X G z3, PySem.W.mg_none_of X G z4, PySem.W.mg_none_of X G z5, PySem.W.mg_none_of X G z6, PySem.W.mg_none_of X G z7, PySem.W.mg_none_of X G z8, PySem.W.mg_none_of X G z9, PySem.W.mg_none_of X G z10, PySem.W.mg_none_of X G z11, PySem.W.mg_none_of X G z12, PySem.W.mg_none_of X G z13, PySem.W.mg_none_of X G z14, PySem.W.mg_none_of X G z15, PySem.W.mg_none_of X G z16, PySem.W.mg_none_of X G z17, PySem.W.mg_none_of X G z18, PySem.W.mg_none_of X G z19, PySem.W.mg_none_of X G z20⟩
  have cz0 : CZ K C0 fmNames := ⟨⟨pg0, hd0, po0, sa0⟩, fun n hn => by
    simp only [fmNames, List.mem_cons, List.not_mem_nil, or_false] at hn
    rcases hn with e | e | e | e | e | e | e | e
    · rw [e]; exact n0_0
    · rw [e]; exact n0_1
    · rw [e]; exact n0_2
    · rw [e]; exact n0_3
    · rw [e]; exact n0_4
    · rw [e]; exact n0_5
    · rw [e]; exact n0_6
    · rw [e]; exact n0_7, ⟨⟨pg0, hd0, po0, sa0⟩, ha0, hn0, htk0, hmo0, me0⟩, sf0, is0⟩
  have ec11 : ErC K C11 "value" := ⟨⟨⟨_, _, _, _, _, _, _, _, _, _, _, _, _, _, _, xL11, rfl⟩, sa11, eC11, tC11, kc11⟩, ⟨ga11, gg11, eC11, hd11⟩, no11⟩
  have bw : BaseX K CW := ⟨⟨rdW, gaW⟩, inW⟩
  have gw := PySem.W.mg_of X G aCW
  have Z : ZZ K w mg cl := ⟨⟨_, PySem.W.mg_of X G s0, _, rfl⟩, ⟨_, PySem.W.mg_of X G s1, _, rfl⟩, ⟨_, PySem.W.mg_of X G s2, _, rfl⟩, ⟨_, PySem.W.mg_of X G s3, _, rfl⟩, ⟨_, PySem.W.mg_of X G s4, _, rfl⟩, dd5, es5, en5, PySem.W.mg_of X G aP5, ⟨lP5, lit5, low5⟩, ⟨_, p5_0⟩, ⟨_, p5_1⟩, ⟨_, p5_2⟩, ⟨_, p5_3⟩, ⟨_, PySem.W.mg_of X G s6, _, rfl⟩, ⟨_, PySem.W.mg_of X G s7, _, rfl⟩, PySem.W.mg_of X G aC0, cz0, ⟨ne0, hmo0⟩, ⟨qn0_0, qn0_1, qn0_2, qn0_3, qn0_4, qn0_5⟩, PySem.W.mg_of X G aC11, ec11, xm11_11, ik11_11, it0_str, ⟨ga11, gg11, eC11, hd11, ha11, hn11, htk11, hmo11⟩, gf_noK, gf_nf0_str, gf_nf0_int, gf_nf0_bool, gf_nf0_non, gf_nf0_tup, gf_nf0_lst, gf_nf0_dct⟩
  have q_e_BadFormula := e_BadFormula (P := P) (base := base) (cl := cl) a1 i1 bw gw Z F1
  have q_c_united := c_united (P := P) (base := base) (cl := cl) (PySem.W.mg_of X G a2) B Z F2 
  have q_c_merged := c_merged (P := P) (base := base) (cl := cl) (PySem.W.mg_of X G a3) B Z F3 
  have qx_c_is_atom := c_is_atom (P := P) (base := base) (cl := cl) (PySem.W.mg_of X G a4) B Z F4 
  have q_c_is_atom := qx_c_is_atom.1
  have q_k_is_atom := qx_c_is_atom.2
  have q_m_Formula := m_Formula (P := P) (base := base) (cl := cl) ⟨mk0, a5, i5, kc0⟩ B Z F5 q_c_united q_c_merged q_c_is_atom
  have q_mx_Formula := mx_Formula (P := P) (base := base) (cl := cl) ⟨mk0, a6, i6, kc0⟩ B Z F6 q_c_united q_c_merged q_c_is_atom q_e_BadFormula
  have q_o_eq := o_eq (P := P) (base := base) (cl := cl) ⟨a7, i7⟩ B Z F7 
  have q_cx_atom := cx_atom (P := P) (base := base) (cl := cl) (PySem.W.mg_of X G a8) B Z F8 q_c_is_atom q_m_Formula q_e_BadFormula
  have qx_c_atom := c_atom (P := P) (base := base) (cl := cl) (PySem.W.mg_of X G a9) B Z F9 q_c_is_atom q_m_Formula
  have q_c_atom := qx_c_atom.1
  have q_k_atom := qx_c_atom.2
  have q_o_str := o_str (P := P) (base := base) (cl := cl) ⟨a10, i10⟩ B Z F10 
  have q_c_law_deck := c_law_deck (P := P) (base := base) (cl := cl) (PySem.W.mg_of X G a11) B Z F11 
  have q_c_law_draw := c_law_draw (P := P) (base := base) (cl := cl) (PySem.W.mg_of X G a12) B Z F12 
  have q_c_law_pick := c_law_pick (P := P) (base := base) (cl := cl) (PySem.W.mg_of X G a13) B Z F13 q_c_law_draw
  have q_c_law_form := c_law_form (P := P) (base := base) (cl := cl) (PySem.W.mg_of X G a14) B Z F14 q_c_law_draw q_c_law_pick
  have q_c_law_text := c_law_text (P := P) (base := base) (cl := cl) (PySem.W.mg_of X G a15) B Z F15 
  have q_c_law_built := c_law_built (P := P) (base := base) (cl := cl) (PySem.W.mg_of X G a16) B Z F16 q_m_Formula
  have q_c_law_is_letter := c_law_is_letter (P := P) (base := base) (cl := cl) (PySem.W.mg_of X G a17) B Z F17 
  have q_c_law_odd := c_law_odd (P := P) (base := base) (cl := cl) (PySem.W.mg_of X G a18) B Z F18 q_c_law_pick
  have q_c_law_part := c_law_part (P := P) (base := base) (cl := cl) (PySem.W.mg_of X G a19) B Z F19 q_c_law_draw q_c_law_pick q_c_law_odd
  have q_c_law_due := c_law_due (P := P) (base := base) (cl := cl) (PySem.W.mg_of X G a20) B Z F20 
  have q_c_law_called := c_law_called (P := P) (base := base) (cl := cl) (PySem.W.mg_of X G a21) B Z F21 q_mx_Formula
  have q_c_law_is_same := c_law_is_same (P := P) (base := base) (cl := cl) (PySem.W.mg_of X G a22) B Z F22 q_o_str
  have q_cs_law_is_same := cs_law_is_same (P := P) (base := base) (cl := cl) (PySem.W.mg_of X G a22) B Z F22 q_o_str
  have q_c_law_are_same := c_law_are_same (P := P) (base := base) (cl := cl) (PySem.W.mg_of X G a23) B Z F23 q_c_law_is_same
  have q_c_law_right := c_law_right (P := P) (base := base) (cl := cl) (PySem.W.mg_of X G a24) B Z F24 q_c_law_due q_c_law_called q_c_law_is_same q_c_law_are_same
  have q_c_law_atom_right := c_law_atom_right (P := P) (base := base) (cl := cl) (PySem.W.mg_of X G a25) B Z F25 q_c_law_is_letter q_c_is_atom q_k_is_atom q_cx_atom q_k_atom q_cs_law_is_same q_o_str q_o_eq
  have q_c_law := c_law (P := P) (base := base) (cl := cl) (PySem.W.mg_of X G a26) B Z F26 q_c_law_deck q_c_law_draw q_c_law_pick (q_c_law_form 20) (q_c_law_built 70) (q_c_law_text 70) q_c_law_odd q_c_law_part q_c_law_right q_c_law_atom_right q_o_str q_o_eq
  obtain ⟨f, hf, hm, _⟩ := q_c_law.ex
  have e := hfa.symm.trans hm
  cases e
  exact fun A outer s H us vs Q hg hr e0 r hsp => hf A outer s H us vs Q hg hr e0 r (top_sp hsp)
end N
set_option Elab.async false
set_option linter.all false
set_option maxRecDepth 100000
set_option maxHeartbeats 0
namespace N
open PySem PySem.Spec PyProof.Rows L2
theorem facts {P : Program} {w : World} {K : Fg} {h base : Heap} {mg : Str → Option Value} {fa : Addr} (X : K.In h) (G : h.Ns mainGlobals mg) (hfa : mg "law" = some (.ref fa)) (c : SaysT tsts dTs dcs w K) :
    FnG P w K mg base 76 fa (spTop K) := by
  have ht0 := c.test 0 (t := tst0) rfl
  simp only [tst0, Bool.and_eq_true, decide_eq_true_eq] at ht0
  obtain ⟨z0, z1, z2, z3, z4, z5, z6, z7⟩ := ht0
  have ht1 := c.test 1 (t := tst1) rfl
  simp only [tst1, Bool.and_eq_true, decide_eq_true_eq] at ht1
  obtain ⟨z8, z9, z10, z11, z12, z13, z14, z15⟩ := ht1
  have ht2 := c.test 2 (t := tst2) rfl
  simp only [tst2, Bool.and_eq_true, decide_eq_true_eq] at ht2
  obtain ⟨z16, z17, z18, z19, z20, s0, s1, s2⟩ := ht2
  obtain ⟨_, s0⟩ := isStrG_ok s0
  obtain ⟨_, s1⟩ := isStrG_ok s1
  obtain ⟨_, s2⟩ := isStrG_ok s2
  have ht3 := c.test 3 (t := tst3) rfl
  simp only [tst3, Bool.and_eq_true, decide_eq_true_eq] at ht3
  obtain ⟨s3, s4, aP5, dlP5, low5, p5_0, p5_1, p5_2⟩ := ht3
  obtain ⟨_, s3⟩ := isStrG_ok s3
  obtain ⟨_, s4⟩ := isStrG_ok s4
  obtain ⟨_, p5_0⟩ := isIntIn_ok p5_0
  obtain ⟨_, p5_1⟩ := isIntIn_ok p5_1
  obtain ⟨_, p5_2⟩ := isIntIn_ok p5_2
  have ht4 := c.test 4 (t := tst4) rfl
  simp only [tst4, Bool.and_eq_true, decide_eq_true_eq] at ht4
  obtain ⟨p5_3, s6, s7, aC0, pg0, hd0, po0, sa0⟩ := ht4
  obtain ⟨_, p5_3⟩ := isIntIn_ok p5_3
  obtain ⟨_, s6⟩ := isStrG_ok s6
  obtain ⟨_, s7⟩ := isStrG_ok s7
  have ht5 := c.test 5 (t := tst5) rfl
  simp only [tst5, Bool.and_eq_true, decide_eq_true_eq] at ht5
  obtain ⟨mk0, kc0, n0_0, n0_1, n0_2, n0_3, n0_4, n0_5⟩ := ht5
  have ht6 := c.test 6 (t := tst6) rfl
  simp only [tst6, Bool.and_eq_true, decide_eq_true_eq] at ht6
  obtain ⟨n0_6, n0_7, ha0, hn0, htk0, hmo0, me0, sf0⟩ := ht6
  have ht7 := c.test 7 (t := tst7) rfl
  simp only [tst7, Bool.and_eq_true, decide_eq_true_eq] at ht7
  obtain ⟨is0, ne0, qn0_0, qn0_1, qn0_2, qn0_3, qn0_4, qn0_5⟩ := ht7
  have ht8 := c.test 8 (t := tst8) rfl
  simp only [tst8, Bool.and_eq_true, decide_eq_true_eq] at ht8
  obtain ⟨aC11, xL11, sa11, eC11, tC11, kc11, ga11, gg11⟩ := ht8
  obtain ⟨_, _, _, _, _, _, _, _, _, _, _, _, _, _, xL11⟩ := isExc_ok xL11
  have ht9 := c.test 9 (t := tst9) rfl
  simp only [tst9, Bool.and_eq_true, decide_eq_true_eq] at ht9
  obtain ⟨hd11, no11, ik11_11, it0_str, ha11, hn11, htk11, hmo11⟩ := ht9
  have ht10 := c.test 10 (t := tst10) rfl
  simp only [tst10, Bool.and_eq_true, decide_eq_true_eq] at ht10
  obtain ⟨xm11_11, gf_noK, gf_nf0_str, gf_nf0_int, gf_nf0_bool, gf_nf0_non, gf_nf0_tup, gf_nf0_lst⟩ := ht10
  have ht11 := c.test 11 (t := tst11) rfl
  simp only [tst11, Bool.and_eq_true, decide_eq_true_eq] at ht11
  obtain ⟨gf_nf0_dct, aCW, rdW, gaW, inW, a1, i1, a2⟩ := ht11
  have inW := isVal_ok inW
  have ht12 := c.test 12 (t := tst12) rfl
  simp only [tst12, Bool.and_eq_true, decide_eq_true_eq] at ht12
  obtain ⟨a3, a4, a5, i5, k5, a6, i6, k6⟩ := ht12
  have ht13 := c.test 13 (t := tst13) rfl
  simp only [tst13, Bool.and_eq_true, decide_eq_true_eq] at ht13
  obtain ⟨a7, i7, k7, a8, a9, a10, i10, k10⟩ := ht13
  have ht14 := c.test 14 (t := tst14) rfl
  simp only [tst14, Bool.and_eq_true, decide_eq_true_eq] at ht14
  obtain ⟨a11, a12, a13, a14, a15, a16, a17, a18⟩ := ht14
  have ht15 := c.test 15 (t := tst15) rfl
  simp only [tst15, Bool.and_eq_true, decide_eq_true_eq] at ht15
  obtain ⟨a19, a20, a21, a22, a23, a24, a25, a26⟩ := ht15
  obtain ⟨_, _, lP5, lit5⟩ := c.dic 0 (d := ⟨fun K => (gA K "PARTS_OF"), ["atom", "no", "if", "all"]⟩) rfl dlP5
  obtain ⟨_, F1⟩ := c.fun_ 0 (d := dT1) rfl rfl
  obtain ⟨_, F2⟩ := c.fun_ 1 (d := dT2) rfl rfl
  obtain ⟨_, F3⟩ := c.fun_ 2 (d := dT3) rfl rfl
  obtain ⟨_, F4⟩ := c.fun_ 3 (d := dT4) rfl rfl
  obtain ⟨_, F5⟩ := c.fun_ 4 (d := dT5) rfl rfl
  obtain ⟨_, F6⟩ := c.fun_ 5 (d := dT6) rfl rfl
  obtain ⟨_, F7⟩ := c.fun_ 6 (d := dT7) rfl rfl
  obtain ⟨_, F8⟩ := c.fun_ 7 (d := dT8) rfl rfl
  obtain ⟨_, F9⟩ := c.fun_ 8 (d := dT9) rfl rfl
  obtain ⟨_, F10⟩ := c.fun_ 9 (d := dT10) rfl rfl
  obtain ⟨_, F11⟩ := c.fun_ 10 (d := dT11) rfl rfl
  obtain ⟨_, F12⟩ := c.fun_ 11 (d := dT12) rfl rfl
  obtain ⟨_, F13⟩ := c.fun_ 12 (d := dT13) rfl rfl
  obtain ⟨_, F14⟩ := c.fun_ 13 (d := dT14) rfl rfl
  obtain ⟨_, F15⟩ := c.fun_ 14 (d := dT15) rfl rfl
  obtain ⟨_, F16⟩ := c.fun_ 15 (d := dT16) rfl rfl
  obtain ⟨_, F17⟩ := c.fun_ 16 (d := dT17) rfl rfl
  obtain ⟨_, F18⟩ := c.fun_ 17 (d := dT18) rfl rfl
  obtain ⟨_, F19⟩ := c.fun_ 18 (d := dT19) rfl rfl
  obtain ⟨_, F20⟩ := c.fun_ 19 (d := dT20) rfl rfl
  obtain ⟨_, F21⟩ := c.fun_ 20 (d := dT21) rfl rfl
  obtain ⟨_, F22⟩ := c.fun_ 21 (d := dT22) rfl rfl
  obtain ⟨_, F23⟩ := c.fun_ 22 (d := dT23) rfl rfl
  obtain ⟨_, F24⟩ := c.fun_ 23 (d := dT24) rfl rfl
  obtain ⟨_, F25⟩ := c.fun_ 24 (d := dT25) rfl rfl
  obtain ⟨_, F26⟩ := c.fun_ 25 (d := dT26) rfl rfl
  exact all_mk X G hfa (rfl : w = w) z0 z1 z2 z3 z4 z5 z6 z7 z8 z9 z10 z11 z12 z13 z14 z15 z16 z17 z18 z19 z20 s0 s1 s2 s3 s4 aP5 lP5 lit5 low5 p5_0 p5_1 p5_2 p5_3 s6 s7 aC0 pg0 hd0 po0 sa0 mk0 kc0 n0_0 n0_1 n0_2 n0_3 n0_4 n0_5 n0_6 n0_7 ha0 hn0 htk0 hmo0 me0 sf0 is0 ne0 qn0_0 qn0_1 qn0_2 qn0_3 qn0_4 qn0_5 aC11 xL11 sa11 eC11 tC11 kc11 ga11 gg11 hd11 no11 ik11_11 it0_str ha11 hn11 htk11 hmo11 xm11_11 gf_noK gf_nf0_str gf_nf0_int gf_nf0_bool gf_nf0_non gf_nf0_tup gf_nf0_lst gf_nf0_dct aCW rdW gaW inW a1 i1 F1 a2 F2 a3 F3 a4 F4 a5 i5 F5 k5 a6 i6 F6 k6 a7 i7 F7 k7 a8 F8 a9 F9 a10 i10 F10 k10 a11 F11 a12 F12 a13 F13 a14 F14 a15 F15 a16 F16 a17 F17 a18 F18 a19 F19 a20 F20 a21 F21 a22 F22 a23 F23 a24 F24 a25 F25 a26 F26
end N
open PySem PySem.W PySem.Calls PyProof.Rows
set_option maxRecDepth 100000 in
set_option maxHeartbeats 0 in
theorem PySem.Challenge.cw_allbeneath_k02_formulas_of_any_parts_holds : PySem.Challenge.rw_allbeneath_k02_formulas_of_any_parts.Holds := by
  w_on; o_law
  refine HandSHeadRun.head_any (r := N.RW_) (q := N.qW) (H := N.hkW) (ob := N.obW) (M := 40000) (loose := N.names) (d := HandSHeadRun.topDef N.RW_.prog 44) (kwd := []) N.obW_eq (by kernel_rfl) (fun s => by kernel_rfl) N.run_W
    (by kernel_rfl) (by kernel_rfl) (by kernel_rfl) (by rfl) (by first | assumption | decide +kernel) (by decide +kernel) ⟨rfl, rfl, rfl, rfl, rfl, by decide +kernel⟩ ?hw ?hc
  case hw => w_witness2
  case hc =>
    refine N.walkT (l := PySem.Challenge.rw_allbeneath_k02_formulas_of_any_parts) (n := 63) (k := 76) (sp := N.spTop) rfl (by decide) (by kernel_rfl) ⟨rfl, by decide, by decide⟩ (fun w h Y => Y) ?F ?G
    case G => exact fun K H a ns hl _ hS => ⟨a, ns, rfl, hS, hl, fun _ => rfl⟩
    case F =>
      intro w mg fa h K KX sy G hmg0 base _ _
      have hmg : mg ("law" : PySem.Str) = some (.ref fa) := by
        have e : (HandSHeadRun.topDef N.RW_.prog 44).name = ("law" : PySem.Str) := by kernel_rfl
        rw [← e]
        exact hmg0
      exact N.facts KX G hmg sy
