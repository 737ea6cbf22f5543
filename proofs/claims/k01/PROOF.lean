import PyProof.Rows.All
import KE.KStateDown
import HandS.Words
import HandS.Head0
import HandS.Head1
import HandS.Head2
import HandS.HeadHook1
import HandS.HeadHook2
import PySem.Challenge.RW_allbeneath_k01_errors
import Wide.All
import OpenK.AllK
import Wide.FinOn
import HandS.ForMost
import HandS.DictComp
import HandS.FStr
import HandS.Star
import HandS.Property
import HandS.TupAny
import HandS.Codes
import HandS.More
import HandS.Conv
import HandS.Strs
import HandS.Style
import HandS.IsInst
import HandS.Defaults
import HandS.Flow
import HandS.MakeKwOnly
import HandS.SortKw
import HandS.WrittenGet
import HandS.MethStar
import KE.KOpsOwn
import KE.KCallOwn
import OpenK.KOps
import KE.DatumIndex
import PyProof.ReprRoads
import PyProof.ReprBulk
import HandS.RaiseMore
import KE.KeyNested
import HandS.Exc
import HandS.ExcInit
import HandS.ExcSuper
import HandS.ExcField
import HandS.ExcIs
import HandS.TryOnly
import HandS.ClsMeth
import HandS.WordsExc
import HandS.ExcOwn
import HandS.TryMany
import PyProof.Rows.StrMeet
import KE.KEqDict
import HandS.SetFor
import PyProof.StrWalks
import PyProof.Rows.SortShellAny
import HandS.SetTxt0
import PyProof.Rows.StrMul
import HandS.TupMul
import PyProof.NeKinds
import PyProof.EqAt
import KE.GoesZip
import KE.GoesMore
import KE.GoesEnumKw
import HandS.Zip
import KE.GoesEnum
import HandS.SortInts
import HandS.SlotsOwn
import PyProof.InstEq
import PyProof.P3Eq
import PyProof.ListStr
import OpenK.KMeth
import KE.KExcIs
import HandS.TupLen
import PyProof.Rows.TupTab
import HandS.SetBool
import HandS.SetKeys
import KE.KDictPairs
import HandS.Iter
import HandS.ExcValue
import HandS.HotCalls
set_option Elab.async false
set_option linter.all false
set_option maxRecDepth 100000
set_option maxHeartbeats 2000000
namespace N
open PySem PySem.Spec PyProof.Rows L2
abbrev Fg := PySem.W.Frag
def gA (K : Fg) (x : Str) : Addr := He.ga K x
def mA (K : Fg) (c m : Str) : Addr := He.ma K (He.ga K c) m
def isVal (K : Fg) (C : Addr) (m : Str) (u : Value) : Bool := match PySem.W.findCls K (.ref C) (.type "type") m with
  | some (.val v) => decide (v = u)
  | _ => false
def isExc (K : Fg) (C CW : Addr) : Bool := match K.lookup C with
  | some ⟨c, dd, .cls cd, sl⟩ => decide (c = .type "type") && (decide (cd.mro = [.ref C, .ref CW, .type "Exception", .type "BaseException", .type "object"]) && (cd.hasDict && (!cd.hasDel && (match sl.toList with
    | [_, _, _, _, some v, _] => decide (v = .builtin "Exception.__new__")
    | _ => false))))
  | _ => false
def keysY (K : Fg) (d : Addr) : List (Str × Int) := match K.lookup d with
  | some ⟨_, _, .dict es _, _⟩ => es.toList.map fun e => match e.key with
    | .str x _ => (x, e.hash)
    | _ => ("", 0)
  | _ => []
structure DefT where
  at_ : Fg → Addr
  name : Str
  qual : Str
  st : Stmt
  dn : Bool
def fnY (K : Fg) (a : Addr) : He.FnW := match K.lookup a with
  | some ⟨_, _, .func fd, _⟩ => some (fd.name, fd.qualname, fd.params, fd.body, fd.scope, fd.globals, fd.closure, fd.builtins)
  | _ => none
def DefT.val (d : DefT) : He.FnW := some (d.name, d.qual, defArgs d.st, .stmts (defBody d.st), defScope d.st, mainGlobals, [], builtinsNs)
def isNon : Value → Bool
  | .none => true
  | _ => false
def nonSeq (K : Fg) (v : Value) : Bool := match v with
  | .ref T => (match K.lookup T with
    | some ⟨_, _, .seq its _, _⟩ => (match its.toList with
      | [v] => isNon v
      | _ => false)
    | _ => false)
  | _ => false
def DefT.ok (K : Fg) (d : DefT) : Bool := PySem.W.keepIn K (.ref (d.at_ K)) && (match K.lookup (d.at_ K) with
  | some ⟨_, _, .func fd, _⟩ => PySem.W.codeIn K fd.code d.qual && (match d.dn with
    | false => isNon fd.defaults
    | true => nonSeq K fd.defaults)
  | _ => false)
structure DicT where
  at_ : Fg → Addr
  keys : List Str
abbrev AlT : Type := Bool × List He.FnW × List (List (Str × Int))
def obsT (ts : List (Fg → Bool)) (fn : List DefT) (dk : List DicT) (K : Fg) : AlT := ((ts.all fun t => t K) && (fn.all fun d => d.ok K), fn.map fun d => fnY K (d.at_ K), dk.map fun d => keysY K (d.at_ K))
def valT (fn : List DefT) (dk : List DicT) (w : World) : AlT := (true, fn.map DefT.val, dk.map fun d => d.keys.map fun k => (k, PyData.keyHash w.params k))
def frNs {β : Type} : List Nat → (List Nat → β) → β
  | [], k => k []
  | x :: l, k => HandSHeadRun.frNat x fun x => frNs l fun l => k (x :: l)
theorem frNs_eq {β : Type} : ∀ (l : List Nat) (k : List Nat → β), frNs l k = k l
  | [], _ => rfl
  | x :: l, k => by
    unfold frNs
    rw [HandSHeadRun.frNat_eq, frNs_eq]
def frOb {β : Type} (o : Obj) (k : Obj → β) : β := match o with
  | ⟨c, d, dt, sl⟩ => k ⟨c, d, dt, sl⟩
theorem frOb_eq {β : Type} (o : Obj) (k : Obj → β) : frOb o k = k o := by cases o; rfl
def frFg {β : Type} : Fg → (Fg → β) → β
  | [], k => k []
  | x :: l, k => HandSHeadRun.frNat x.1 fun a => frOb x.2 fun o => frFg l fun l => k ((a, o) :: l)
theorem frFg_eq {β : Type} : ∀ (l : Fg) (k : Fg → β), frFg l k = k l
  | [], _ => rfl
  | x :: l, k => by
    unfold frFg
    rw [HandSHeadRun.frNat_eq, frOb_eq, frFg_eq]
def obsTG (ts : List (Fg → Bool)) (fn : List DefT) (dk : List DicT) (n : Nat) (g : Addr → Option Obj) : AlT := frNs (List.range n) fun as => frFg (He.frG g as) fun K => obsT ts fn dk K
theorem obsTG_eq (ts : List (Fg → Bool)) (fn : List DefT) (dk : List DicT) (n : Nat) (g : Addr → Option Obj) : obsTG ts fn dk n g = obsT ts fn dk (He.frG g (List.range n)) := by
  unfold obsTG
  rw [frNs_eq, frFg_eq]
def SaysT (ts : List (Fg → Bool)) (fn : List DefT) (dk : List DicT) (w : World) (K : Fg) : Prop := obsT ts fn dk K = valT fn dk w
def hookT (ts : List (Fg → Bool)) (fn : List DefT) (dk : List DicT) : PySem.W.Hook where
  α := AlT
  obs := fun s => obsTG ts fn dk s.heap.objs.size s.heap.get?
  val := fun w => valT fn dk w
  says := fun w h => ∃ K : Fg, K.In h ∧ SaysT ts fn dk w K
  of := fun _ _ e => ⟨_, He.frG_in, by unfold SaysT; rw [← obsTG_eq]; exact e⟩
  keeps := fun _ _ _ ⟨K, hK, c⟩ k => ⟨K, PySem.W.Frag.In.keeps hK k, c⟩
def obT (ts : List (Fg → Bool)) (fn : List DefT) (dk : List DicT) (s : PySem.W.SharedT) : AlT := obsTG ts fn dk s.n (HandSHeadRun.getT s)
theorem obT_eq {ts : List (Fg → Bool)} {fn : List DefT} {dk : List DicT} (s : PySem.W.SharedT) : obT ts fn dk s = (hookT ts fn dk).obs s.abs := by
  have e : HandSHeadRun.getT s = s.abs.heap.get? := funext (HandSHeadRun.getT_eq s)
  have e2 : s.n = s.abs.heap.objs.size := (PySem.W.absHeap_size s.tree s.n s.life).symm
  unfold obT
  rw [e, e2]
  rfl
end N
set_option linter.all false
namespace N
open PySem PySem.Spec PyProof.Rows L2
def five01 : List String := ["ValueError", "LookupError", "TypeError", "ArithmeticError", "RuntimeError"]
def kitAll (K : PySem.W.Frag) (l : List Addr) : Bool := l.zipIdx.all fun a => l.zipIdx.all fun b => decide (PySem.W.kitOne K (.ref a.1) (.ref b.1) = some (decide (a.2 = b.2)))
def kitFive (K : PySem.W.Frag) (l : List Addr) : Bool := l.all fun a => five01.all fun t => decide (PySem.W.kitOne K (.ref a) (.type t) = some false)
def exmAll (K : PySem.W.Frag) (l : List Addr) (b : Addr) : Bool := l.all fun a => decide (PySem.W.exmOne K (.ref a) (.ref b) = some true) && decide (PySem.W.kitOne K (.ref a) (.ref b) = some true)
end N
set_option Elab.async false
set_option linter.all false
set_option maxRecDepth 100000
set_option maxHeartbeats 0
namespace N
open PySem PySem.Spec PyProof.Rows L2
namespace HH
def top (i : Nat) : Stmt := PySem.Challenge.pw_allbeneath_k01_errors.main.body.getD i (.Pass ⟨0, 0, 0, 0⟩)
abbrev s_BadFormula___init__ : Stmt := inClass (top 2) 0
abbrev s_BadText___init__ : Stmt := inClass (top 3) 0
abbrev s_BadWeb___init__ : Stmt := inClass (top 4) 0
abbrev s_BadRules___init__ : Stmt := inClass (top 5) 0
abbrev s_UnknownMark___init__ : Stmt := inClass (top 6) 0
abbrev s_Clash___init__ : Stmt := inClass (top 7) 0
abbrev s_Apart___init__ : Stmt := inClass (top 8) 0
abbrev s_BadBook___init__ : Stmt := inClass (top 9) 0
abbrev s_UnknownPlayer___init__ : Stmt := inClass (top 10) 0
abbrev s_NoPlayer___init__ : Stmt := inClass (top 11) 0
abbrev s_law_deck : Stmt := top 15
abbrev s_law_draw : Stmt := top 16
abbrev s_law_pick : Stmt := top 17
abbrev s_law_value : Stmt := top 18
abbrev s_law_made : Stmt := top 19
abbrev s_law_named : Stmt := top 20
abbrev s_law_told : Stmt := top 21
abbrev s_law_is_of : Stmt := top 22
abbrev s_law_raised : Stmt := top 23
abbrev s_law_raised_too : Stmt := top 24
abbrev s_law_caught : Stmt := top 25
abbrev s_law : Stmt := top 26
end HH
def tst0 (K : Fg) : Bool := decide (PySem.W.nsIn K mainGlobals "len" = some none) && (decide (PySem.W.nsIn K mainGlobals "int" = some none) && (decide (PySem.W.nsIn K mainGlobals "str" = some none) && (decide (PySem.W.nsIn K mainGlobals "range" = some none) && (decide (PySem.W.nsIn K mainGlobals "list" = some none) && (decide (PySem.W.nsIn K mainGlobals "tuple" = some none) && (decide (PySem.W.nsIn K mainGlobals "dict" = some none) && (decide (PySem.W.nsIn K mainGlobals "set" = some none))))))))
def tst1 (K : Fg) : Bool := decide (PySem.W.nsIn K mainGlobals "sorted" = some none) && (decide (PySem.W.nsIn K mainGlobals "isinstance" = some none) && (decide (PySem.W.nsIn K mainGlobals "repr" = some none) && (decide (PySem.W.nsIn K mainGlobals "max" = some none) && (decide (PySem.W.nsIn K mainGlobals "min" = some none) && (decide (PySem.W.nsIn K mainGlobals "sum" = some none) && (decide (PySem.W.nsIn K mainGlobals "all" = some none) && (decide (PySem.W.nsIn K mainGlobals "any" = some none))))))))
def tst2 (K : Fg) : Bool := decide (PySem.W.nsIn K mainGlobals "zip" = some none) && (decide (PySem.W.nsIn K mainGlobals "enumerate" = some none) && (decide (PySem.W.nsIn K mainGlobals "bool" = some none) && (decide (PySem.W.nsIn K mainGlobals "reversed" = some none) && (decide (PySem.W.nsIn K mainGlobals "type" = some none) && (decide (PySem.W.nsIn K mainGlobals "BadFormula" = some (some (.ref (gA K "BadFormula")))) && (isExc K (gA K "BadFormula") (gA K "WebError") && (decide (PySem.W.findIn K (.ref (gA K "BadFormula")) "__setattr__" = some (some (.builtin "object.__setattr__"))))))))))
def tst3 (K : Fg) : Bool := decide (PySem.W.subIn K (.ref (gA K "BadFormula")) (.type "BaseException") = some true) && (decide (PySem.W.typeIn K (.ref (gA K "BadFormula")) = some (.type "type")) && (decide (PySem.W.keepIn K (.ref (gA K "BadFormula")) = true) && (decide (PySem.W.findIn K (.ref (gA K "BadFormula")) "__getattribute__" = some (some (.builtin "BaseException.__getattribute__"))) && (decide (PySem.W.findIn K (.ref (gA K "BadFormula")) "__getattr__" = some none) && (decide (PySem.W.hasDictIn K (gA K "BadFormula") = true) && (decide (PySem.W.findIn K (.ref (gA K "BadFormula")) "value" = some none) && (decide (PySem.W.nsIn K mainGlobals "BadText" = some (some (.ref (gA K "BadText")))))))))))
def tst4 (K : Fg) : Bool := isExc K (gA K "BadText") (gA K "WebError") && (decide (PySem.W.findIn K (.ref (gA K "BadText")) "__setattr__" = some (some (.builtin "object.__setattr__"))) && (decide (PySem.W.subIn K (.ref (gA K "BadText")) (.type "BaseException") = some true) && (decide (PySem.W.typeIn K (.ref (gA K "BadText")) = some (.type "type")) && (decide (PySem.W.keepIn K (.ref (gA K "BadText")) = true) && (decide (PySem.W.findIn K (.ref (gA K "BadText")) "__getattribute__" = some (some (.builtin "BaseException.__getattribute__"))) && (decide (PySem.W.findIn K (.ref (gA K "BadText")) "__getattr__" = some none) && (decide (PySem.W.hasDictIn K (gA K "BadText") = true))))))))
def tst5 (K : Fg) : Bool := decide (PySem.W.findIn K (.ref (gA K "BadText")) "place" = some none) && (decide (PySem.W.nsIn K mainGlobals "BadWeb" = some (some (.ref (gA K "BadWeb")))) && (isExc K (gA K "BadWeb") (gA K "WebError") && (decide (PySem.W.findIn K (.ref (gA K "BadWeb")) "__setattr__" = some (some (.builtin "object.__setattr__"))) && (decide (PySem.W.subIn K (.ref (gA K "BadWeb")) (.type "BaseException") = some true) && (decide (PySem.W.typeIn K (.ref (gA K "BadWeb")) = some (.type "type")) && (decide (PySem.W.keepIn K (.ref (gA K "BadWeb")) = true) && (decide (PySem.W.findIn K (.ref (gA K "BadWeb")) "__getattribute__" = some (some (.builtin "BaseException.__getattribute__"))))))))))
def tst6 (K : Fg) : Bool := decide (PySem.W.findIn K (.ref (gA K "BadWeb")) "__getattr__" = some none) && (decide (PySem.W.hasDictIn K (gA K "BadWeb") = true) && (decide (PySem.W.findIn K (.ref (gA K "BadWeb")) "part" = some none) && (decide (PySem.W.nsIn K mainGlobals "BadRules" = some (some (.ref (gA K "BadRules")))) && (isExc K (gA K "BadRules") (gA K "WebError") && (decide (PySem.W.findIn K (.ref (gA K "BadRules")) "__setattr__" = some (some (.builtin "object.__setattr__"))) && (decide (PySem.W.subIn K (.ref (gA K "BadRules")) (.type "BaseException") = some true) && (decide (PySem.W.typeIn K (.ref (gA K "BadRules")) = some (.type "type")))))))))
def tst7 (K : Fg) : Bool := decide (PySem.W.keepIn K (.ref (gA K "BadRules")) = true) && (decide (PySem.W.findIn K (.ref (gA K "BadRules")) "__getattribute__" = some (some (.builtin "BaseException.__getattribute__"))) && (decide (PySem.W.findIn K (.ref (gA K "BadRules")) "__getattr__" = some none) && (decide (PySem.W.hasDictIn K (gA K "BadRules") = true) && (decide (PySem.W.findIn K (.ref (gA K "BadRules")) "part" = some none) && (decide (PySem.W.nsIn K mainGlobals "UnknownMark" = some (some (.ref (gA K "UnknownMark")))) && (isExc K (gA K "UnknownMark") (gA K "WebError") && (decide (PySem.W.findIn K (.ref (gA K "UnknownMark")) "__setattr__" = some (some (.builtin "object.__setattr__"))))))))))
def tst8 (K : Fg) : Bool := decide (PySem.W.subIn K (.ref (gA K "UnknownMark")) (.type "BaseException") = some true) && (decide (PySem.W.typeIn K (.ref (gA K "UnknownMark")) = some (.type "type")) && (decide (PySem.W.keepIn K (.ref (gA K "UnknownMark")) = true) && (decide (PySem.W.findIn K (.ref (gA K "UnknownMark")) "__getattribute__" = some (some (.builtin "BaseException.__getattribute__"))) && (decide (PySem.W.findIn K (.ref (gA K "UnknownMark")) "__getattr__" = some none) && (decide (PySem.W.hasDictIn K (gA K "UnknownMark") = true) && (decide (PySem.W.findIn K (.ref (gA K "UnknownMark")) "mark" = some none) && (decide (PySem.W.nsIn K mainGlobals "Clash" = some (some (.ref (gA K "Clash")))))))))))
def tst9 (K : Fg) : Bool := isExc K (gA K "Clash") (gA K "WebError") && (decide (PySem.W.findIn K (.ref (gA K "Clash")) "__setattr__" = some (some (.builtin "object.__setattr__"))) && (decide (PySem.W.subIn K (.ref (gA K "Clash")) (.type "BaseException") = some true) && (decide (PySem.W.typeIn K (.ref (gA K "Clash")) = some (.type "type")) && (decide (PySem.W.keepIn K (.ref (gA K "Clash")) = true) && (decide (PySem.W.findIn K (.ref (gA K "Clash")) "__getattribute__" = some (some (.builtin "BaseException.__getattribute__"))) && (decide (PySem.W.findIn K (.ref (gA K "Clash")) "__getattr__" = some none) && (decide (PySem.W.hasDictIn K (gA K "Clash") = true))))))))
def tst10 (K : Fg) : Bool := decide (PySem.W.findIn K (.ref (gA K "Clash")) "mark" = some none) && (decide (PySem.W.nsIn K mainGlobals "Apart" = some (some (.ref (gA K "Apart")))) && (isExc K (gA K "Apart") (gA K "WebError") && (decide (PySem.W.findIn K (.ref (gA K "Apart")) "__setattr__" = some (some (.builtin "object.__setattr__"))) && (decide (PySem.W.subIn K (.ref (gA K "Apart")) (.type "BaseException") = some true) && (decide (PySem.W.typeIn K (.ref (gA K "Apart")) = some (.type "type")) && (decide (PySem.W.keepIn K (.ref (gA K "Apart")) = true) && (decide (PySem.W.findIn K (.ref (gA K "Apart")) "__getattribute__" = some (some (.builtin "BaseException.__getattribute__"))))))))))
def tst11 (K : Fg) : Bool := decide (PySem.W.findIn K (.ref (gA K "Apart")) "__getattr__" = some none) && (decide (PySem.W.hasDictIn K (gA K "Apart") = true) && (decide (PySem.W.findIn K (.ref (gA K "Apart")) "web" = some none) && (decide (PySem.W.nsIn K mainGlobals "BadBook" = some (some (.ref (gA K "BadBook")))) && (isExc K (gA K "BadBook") (gA K "WebError") && (decide (PySem.W.findIn K (.ref (gA K "BadBook")) "__setattr__" = some (some (.builtin "object.__setattr__"))) && (decide (PySem.W.subIn K (.ref (gA K "BadBook")) (.type "BaseException") = some true) && (decide (PySem.W.typeIn K (.ref (gA K "BadBook")) = some (.type "type")))))))))
def tst12 (K : Fg) : Bool := decide (PySem.W.keepIn K (.ref (gA K "BadBook")) = true) && (decide (PySem.W.findIn K (.ref (gA K "BadBook")) "__getattribute__" = some (some (.builtin "BaseException.__getattribute__"))) && (decide (PySem.W.findIn K (.ref (gA K "BadBook")) "__getattr__" = some none) && (decide (PySem.W.hasDictIn K (gA K "BadBook") = true) && (decide (PySem.W.findIn K (.ref (gA K "BadBook")) "part" = some none) && (decide (PySem.W.nsIn K mainGlobals "UnknownPlayer" = some (some (.ref (gA K "UnknownPlayer")))) && (isExc K (gA K "UnknownPlayer") (gA K "WebError") && (decide (PySem.W.findIn K (.ref (gA K "UnknownPlayer")) "__setattr__" = some (some (.builtin "object.__setattr__"))))))))))
def tst13 (K : Fg) : Bool := decide (PySem.W.subIn K (.ref (gA K "UnknownPlayer")) (.type "BaseException") = some true) && (decide (PySem.W.typeIn K (.ref (gA K "UnknownPlayer")) = some (.type "type")) && (decide (PySem.W.keepIn K (.ref (gA K "UnknownPlayer")) = true) && (decide (PySem.W.findIn K (.ref (gA K "UnknownPlayer")) "__getattribute__" = some (some (.builtin "BaseException.__getattribute__"))) && (decide (PySem.W.findIn K (.ref (gA K "UnknownPlayer")) "__getattr__" = some none) && (decide (PySem.W.hasDictIn K (gA K "UnknownPlayer") = true) && (decide (PySem.W.findIn K (.ref (gA K "UnknownPlayer")) "name" = some none) && (decide (PySem.W.nsIn K mainGlobals "NoPlayer" = some (some (.ref (gA K "NoPlayer")))))))))))
def tst14 (K : Fg) : Bool := isExc K (gA K "NoPlayer") (gA K "WebError") && (decide (PySem.W.findIn K (.ref (gA K "NoPlayer")) "__setattr__" = some (some (.builtin "object.__setattr__"))) && (decide (PySem.W.subIn K (.ref (gA K "NoPlayer")) (.type "BaseException") = some true) && (decide (PySem.W.typeIn K (.ref (gA K "NoPlayer")) = some (.type "type")) && (decide (PySem.W.keepIn K (.ref (gA K "NoPlayer")) = true) && (decide (PySem.W.findIn K (.ref (gA K "NoPlayer")) "__getattribute__" = some (some (.builtin "BaseException.__getattribute__"))) && (decide (PySem.W.findIn K (.ref (gA K "NoPlayer")) "__getattr__" = some none) && (decide (PySem.W.hasDictIn K (gA K "NoPlayer") = true))))))))
def tst15 (K : Fg) : Bool := decide (PySem.W.findIn K (.ref (gA K "NoPlayer")) "wish" = some none) && (decide (PySem.W.nsIn K mainGlobals "NothingToUndo" = some (some (.ref (gA K "NothingToUndo")))) && (decide (PySem.W.excIn K (gA K "NothingToUndo") [.type "Exception", .type "BaseException", .type "object"] "Exception.__new__" = true) && (decide (PySem.W.keepIn K (.ref (gA K "NothingToUndo")) = true) && (decide (PySem.W.subIn K (.ref (gA K "NothingToUndo")) (.type "BaseException") = some true) && (decide (PySem.W.typeIn K (.ref (gA K "NothingToUndo")) = some (.type "type")) && (decide (PySem.W.findIn K (.ref (gA K "NothingToUndo")) "__getattribute__" = some (some (.builtin "BaseException.__getattribute__"))) && (decide (PySem.W.findIn K (.ref (gA K "NothingToUndo")) "__getattr__" = some none))))))))
def tst16 (K : Fg) : Bool := decide (PySem.W.hasDictIn K (gA K "NothingToUndo") = true) && (decide (PySem.W.nsIn K mainGlobals "NothingToRedo" = some (some (.ref (gA K "NothingToRedo")))) && (decide (PySem.W.excIn K (gA K "NothingToRedo") [.type "Exception", .type "BaseException", .type "object"] "Exception.__new__" = true) && (decide (PySem.W.keepIn K (.ref (gA K "NothingToRedo")) = true) && (decide (PySem.W.subIn K (.ref (gA K "NothingToRedo")) (.type "BaseException") = some true) && (decide (PySem.W.typeIn K (.ref (gA K "NothingToRedo")) = some (.type "type")) && (decide (PySem.W.findIn K (.ref (gA K "NothingToRedo")) "__getattribute__" = some (some (.builtin "BaseException.__getattribute__"))) && (decide (PySem.W.findIn K (.ref (gA K "NothingToRedo")) "__getattr__" = some none))))))))
def tst17 (K : Fg) : Bool := decide (PySem.W.hasDictIn K (gA K "NothingToRedo") = true) && (decide (PySem.W.nsIn K mainGlobals "WebError" = some (some (.ref (gA K "WebError")))) && (decide (PySem.W.kitOne K (.ref (gA K "BadFormula")) (.ref (gA K "WebError")) = some true) && (decide (PySem.W.kitOne K (.ref (gA K "BadText")) (.ref (gA K "WebError")) = some true) && (decide (PySem.W.kitOne K (.ref (gA K "BadWeb")) (.ref (gA K "WebError")) = some true) && (decide (PySem.W.kitOne K (.ref (gA K "BadRules")) (.ref (gA K "WebError")) = some true) && (decide (PySem.W.kitOne K (.ref (gA K "UnknownMark")) (.ref (gA K "WebError")) = some true) && (decide (PySem.W.kitOne K (.ref (gA K "Clash")) (.ref (gA K "WebError")) = some true))))))))
def tst18 (K : Fg) : Bool := decide (PySem.W.kitOne K (.ref (gA K "Apart")) (.ref (gA K "WebError")) = some true) && (decide (PySem.W.kitOne K (.ref (gA K "BadBook")) (.ref (gA K "WebError")) = some true) && (decide (PySem.W.kitOne K (.ref (gA K "UnknownPlayer")) (.ref (gA K "WebError")) = some true) && (decide (PySem.W.kitOne K (.ref (gA K "NoPlayer")) (.ref (gA K "WebError")) = some true) && (decide (PySem.W.kitOne K (.ref (gA K "NothingToUndo")) (.ref (gA K "WebError")) = some true) && (decide (PySem.W.kitOne K (.ref (gA K "NothingToRedo")) (.ref (gA K "WebError")) = some true) && (decide (PySem.W.findIn K (.ref (gA K "BadFormula")) "__class__" = some (some (.builtin "object.__class__"))) && (decide (PySem.W.specialIn K (.builtin "object.__class__") "__get__" = some (some (.builtin "getset_descriptor.__get__"))))))))))
def tst19 (K : Fg) : Bool := decide (PySem.W.takesIn K (.builtin "object.__class__") = some true) && (decide (PySem.W.mroIn K (gA K "BadFormula") (.type "object") = some true) && (decide (PySem.W.findIn K (.ref (gA K "BadText")) "__class__" = some (some (.builtin "object.__class__"))) && (decide (PySem.W.specialIn K (.builtin "object.__class__") "__get__" = some (some (.builtin "getset_descriptor.__get__"))) && (decide (PySem.W.takesIn K (.builtin "object.__class__") = some true) && (decide (PySem.W.mroIn K (gA K "BadText") (.type "object") = some true) && (decide (PySem.W.findIn K (.ref (gA K "BadWeb")) "__class__" = some (some (.builtin "object.__class__"))) && (decide (PySem.W.specialIn K (.builtin "object.__class__") "__get__" = some (some (.builtin "getset_descriptor.__get__"))))))))))
def tst20 (K : Fg) : Bool := decide (PySem.W.takesIn K (.builtin "object.__class__") = some true) && (decide (PySem.W.mroIn K (gA K "BadWeb") (.type "object") = some true) && (decide (PySem.W.findIn K (.ref (gA K "BadRules")) "__class__" = some (some (.builtin "object.__class__"))) && (decide (PySem.W.specialIn K (.builtin "object.__class__") "__get__" = some (some (.builtin "getset_descriptor.__get__"))) && (decide (PySem.W.takesIn K (.builtin "object.__class__") = some true) && (decide (PySem.W.mroIn K (gA K "BadRules") (.type "object") = some true) && (decide (PySem.W.findIn K (.ref (gA K "UnknownMark")) "__class__" = some (some (.builtin "object.__class__"))) && (decide (PySem.W.specialIn K (.builtin "object.__class__") "__get__" = some (some (.builtin "getset_descriptor.__get__"))))))))))
def tst21 (K : Fg) : Bool := decide (PySem.W.takesIn K (.builtin "object.__class__") = some true) && (decide (PySem.W.mroIn K (gA K "UnknownMark") (.type "object") = some true) && (decide (PySem.W.findIn K (.ref (gA K "Clash")) "__class__" = some (some (.builtin "object.__class__"))) && (decide (PySem.W.specialIn K (.builtin "object.__class__") "__get__" = some (some (.builtin "getset_descriptor.__get__"))) && (decide (PySem.W.takesIn K (.builtin "object.__class__") = some true) && (decide (PySem.W.mroIn K (gA K "Clash") (.type "object") = some true) && (decide (PySem.W.findIn K (.ref (gA K "Apart")) "__class__" = some (some (.builtin "object.__class__"))) && (decide (PySem.W.specialIn K (.builtin "object.__class__") "__get__" = some (some (.builtin "getset_descriptor.__get__"))))))))))
def tst22 (K : Fg) : Bool := decide (PySem.W.takesIn K (.builtin "object.__class__") = some true) && (decide (PySem.W.mroIn K (gA K "Apart") (.type "object") = some true) && (decide (PySem.W.findIn K (.ref (gA K "BadBook")) "__class__" = some (some (.builtin "object.__class__"))) && (decide (PySem.W.specialIn K (.builtin "object.__class__") "__get__" = some (some (.builtin "getset_descriptor.__get__"))) && (decide (PySem.W.takesIn K (.builtin "object.__class__") = some true) && (decide (PySem.W.mroIn K (gA K "BadBook") (.type "object") = some true) && (decide (PySem.W.findIn K (.ref (gA K "UnknownPlayer")) "__class__" = some (some (.builtin "object.__class__"))) && (decide (PySem.W.specialIn K (.builtin "object.__class__") "__get__" = some (some (.builtin "getset_descriptor.__get__"))))))))))
def tst23 (K : Fg) : Bool := decide (PySem.W.takesIn K (.builtin "object.__class__") = some true) && (decide (PySem.W.mroIn K (gA K "UnknownPlayer") (.type "object") = some true) && (decide (PySem.W.findIn K (.ref (gA K "NoPlayer")) "__class__" = some (some (.builtin "object.__class__"))) && (decide (PySem.W.specialIn K (.builtin "object.__class__") "__get__" = some (some (.builtin "getset_descriptor.__get__"))) && (decide (PySem.W.takesIn K (.builtin "object.__class__") = some true) && (decide (PySem.W.mroIn K (gA K "NoPlayer") (.type "object") = some true) && (decide (PySem.W.findIn K (.ref (gA K "NothingToUndo")) "__class__" = some (some (.builtin "object.__class__"))) && (decide (PySem.W.specialIn K (.builtin "object.__class__") "__get__" = some (some (.builtin "getset_descriptor.__get__"))))))))))
def tst24 (K : Fg) : Bool := decide (PySem.W.takesIn K (.builtin "object.__class__") = some true) && (decide (PySem.W.mroIn K (gA K "NothingToUndo") (.type "object") = some true) && (decide (PySem.W.findIn K (.ref (gA K "NothingToRedo")) "__class__" = some (some (.builtin "object.__class__"))) && (decide (PySem.W.specialIn K (.builtin "object.__class__") "__get__" = some (some (.builtin "getset_descriptor.__get__"))) && (decide (PySem.W.takesIn K (.builtin "object.__class__") = some true) && (decide (PySem.W.mroIn K (gA K "NothingToRedo") (.type "object") = some true) && (decide (PySem.W.nsIn K mainGlobals "ValueError" = some none) && (decide (PySem.W.nsIn K mainGlobals "LookupError" = some none))))))))
def tst25 (K : Fg) : Bool := decide (PySem.W.nsIn K mainGlobals "TypeError" = some none) && (decide (PySem.W.nsIn K mainGlobals "ArithmeticError" = some none) && (decide (PySem.W.nsIn K mainGlobals "RuntimeError" = some none) && (decide (kitAll K [(gA K "BadFormula"), (gA K "BadText"), (gA K "BadWeb"), (gA K "BadRules"), (gA K "UnknownMark"), (gA K "Clash"), (gA K "Apart"), (gA K "BadBook"), (gA K "UnknownPlayer"), (gA K "NoPlayer"), (gA K "NothingToUndo"), (gA K "NothingToRedo")] = true) && (decide (kitFive K [(gA K "BadFormula"), (gA K "BadText"), (gA K "BadWeb"), (gA K "BadRules"), (gA K "UnknownMark"), (gA K "Clash"), (gA K "Apart"), (gA K "BadBook"), (gA K "UnknownPlayer"), (gA K "NoPlayer"), (gA K "NothingToUndo"), (gA K "NothingToRedo")] = true) && (decide (exmAll K [(gA K "BadFormula"), (gA K "BadText"), (gA K "BadWeb"), (gA K "BadRules"), (gA K "UnknownMark"), (gA K "Clash"), (gA K "Apart"), (gA K "BadBook"), (gA K "UnknownPlayer"), (gA K "NoPlayer"), (gA K "NothingToUndo"), (gA K "NothingToRedo")] (gA K "WebError") = true) && (decide (PySem.W.nsIn K mainGlobals "WebError" = some (some (.ref (gA K "WebError")))) && (decide (PySem.W.readsIn K (gA K "WebError") (.type "type") = true))))))))
def tst26 (K : Fg) : Bool := decide (PySem.W.specialIn K (.ref (gA K "WebError")) "__getattribute__" = some (some (.builtin "type.__getattribute__"))) && (isVal K (gA K "WebError") "__init__" (.builtin "Exception.__init__") && (decide (PySem.W.findIn K (.ref (gA K "BadFormula")) "__init__" = some (some (.ref (mA K "BadFormula" "__init__")))) && (decide (PySem.W.typeIn K (.ref (mA K "BadFormula" "__init__")) = some (.type "function")) && (decide (PySem.W.findIn K (.ref (gA K "BadText")) "__init__" = some (some (.ref (mA K "BadText" "__init__")))) && (decide (PySem.W.typeIn K (.ref (mA K "BadText" "__init__")) = some (.type "function")) && (decide (PySem.W.findIn K (.ref (gA K "BadWeb")) "__init__" = some (some (.ref (mA K "BadWeb" "__init__")))) && (decide (PySem.W.typeIn K (.ref (mA K "BadWeb" "__init__")) = some (.type "function")))))))))
def tst27 (K : Fg) : Bool := decide (PySem.W.findIn K (.ref (gA K "BadRules")) "__init__" = some (some (.ref (mA K "BadRules" "__init__")))) && (decide (PySem.W.typeIn K (.ref (mA K "BadRules" "__init__")) = some (.type "function")) && (decide (PySem.W.findIn K (.ref (gA K "UnknownMark")) "__init__" = some (some (.ref (mA K "UnknownMark" "__init__")))) && (decide (PySem.W.typeIn K (.ref (mA K "UnknownMark" "__init__")) = some (.type "function")) && (decide (PySem.W.findIn K (.ref (gA K "Clash")) "__init__" = some (some (.ref (mA K "Clash" "__init__")))) && (decide (PySem.W.typeIn K (.ref (mA K "Clash" "__init__")) = some (.type "function")) && (decide (PySem.W.findIn K (.ref (gA K "Apart")) "__init__" = some (some (.ref (mA K "Apart" "__init__")))) && (decide (PySem.W.typeIn K (.ref (mA K "Apart" "__init__")) = some (.type "function")))))))))
def tst28 (K : Fg) : Bool := decide (PySem.W.findIn K (.ref (gA K "BadBook")) "__init__" = some (some (.ref (mA K "BadBook" "__init__")))) && (decide (PySem.W.typeIn K (.ref (mA K "BadBook" "__init__")) = some (.type "function")) && (decide (PySem.W.findIn K (.ref (gA K "UnknownPlayer")) "__init__" = some (some (.ref (mA K "UnknownPlayer" "__init__")))) && (decide (PySem.W.typeIn K (.ref (mA K "UnknownPlayer" "__init__")) = some (.type "function")) && (decide (PySem.W.findIn K (.ref (gA K "NoPlayer")) "__init__" = some (some (.ref (mA K "NoPlayer" "__init__")))) && (decide (PySem.W.typeIn K (.ref (mA K "NoPlayer" "__init__")) = some (.type "function")) && (decide (PySem.W.nsIn K mainGlobals "_law_deck" = some (some (.ref (gA K "_law_deck")))) && (decide (PySem.W.nsIn K mainGlobals "_law_draw" = some (some (.ref (gA K "_law_draw")))))))))))
def tst29 (K : Fg) : Bool := decide (PySem.W.nsIn K mainGlobals "_law_pick" = some (some (.ref (gA K "_law_pick")))) && (decide (PySem.W.nsIn K mainGlobals "_law_value" = some (some (.ref (gA K "_law_value")))) && (decide (PySem.W.nsIn K mainGlobals "_law_made" = some (some (.ref (gA K "_law_made")))) && (decide (PySem.W.nsIn K mainGlobals "_law_named" = some (some (.ref (gA K "_law_named")))) && (decide (PySem.W.nsIn K mainGlobals "_law_told" = some (some (.ref (gA K "_law_told")))) && (decide (PySem.W.nsIn K mainGlobals "_law_is_of" = some (some (.ref (gA K "_law_is_of")))) && (decide (PySem.W.nsIn K mainGlobals "_law_raised" = some (some (.ref (gA K "_law_raised")))) && (decide (PySem.W.nsIn K mainGlobals "_law_raised_too" = some (some (.ref (gA K "_law_raised_too")))))))))))
def tst30 (K : Fg) : Bool := decide (PySem.W.nsIn K mainGlobals "_law_caught" = some (some (.ref (gA K "_law_caught")))) && (decide (PySem.W.nsIn K mainGlobals "law" = some (some (.ref (gA K "law")))))
def tsts_0 : List (Fg → Bool) := [tst0, tst1, tst2, tst3, tst4, tst5, tst6, tst7, tst8, tst9, tst10, tst11]
def tsts_1 : List (Fg → Bool) := [tst12, tst13, tst14, tst15, tst16, tst17, tst18, tst19, tst20, tst21, tst22, tst23]
def tsts_2 : List (Fg → Bool) := [tst24, tst25, tst26, tst27, tst28, tst29, tst30]
def tsts : List (Fg → Bool) := tsts_0 ++ (tsts_1 ++ (tsts_2))
def dT1 : DefT := ⟨fun K => (mA K "BadFormula" "__init__"), "__init__", "BadFormula.__init__", HH.s_BadFormula___init__, false⟩
def dT2 : DefT := ⟨fun K => (mA K "BadText" "__init__"), "__init__", "BadText.__init__", HH.s_BadText___init__, false⟩
def dT3 : DefT := ⟨fun K => (mA K "BadWeb" "__init__"), "__init__", "BadWeb.__init__", HH.s_BadWeb___init__, false⟩
def dT4 : DefT := ⟨fun K => (mA K "BadRules" "__init__"), "__init__", "BadRules.__init__", HH.s_BadRules___init__, false⟩
def dT5 : DefT := ⟨fun K => (mA K "UnknownMark" "__init__"), "__init__", "UnknownMark.__init__", HH.s_UnknownMark___init__, false⟩
def dT6 : DefT := ⟨fun K => (mA K "Clash" "__init__"), "__init__", "Clash.__init__", HH.s_Clash___init__, false⟩
def dT7 : DefT := ⟨fun K => (mA K "Apart" "__init__"), "__init__", "Apart.__init__", HH.s_Apart___init__, false⟩
def dT8 : DefT := ⟨fun K => (mA K "BadBook" "__init__"), "__init__", "BadBook.__init__", HH.s_BadBook___init__, false⟩
def dT9 : DefT := ⟨fun K => (mA K "UnknownPlayer" "__init__"), "__init__", "UnknownPlayer.__init__", HH.s_UnknownPlayer___init__, false⟩
def dT10 : DefT := ⟨fun K => (mA K "NoPlayer" "__init__"), "__init__", "NoPlayer.__init__", HH.s_NoPlayer___init__, false⟩
def dT11 : DefT := ⟨fun K => (gA K "_law_deck"), "_law_deck", "_law_deck", HH.s_law_deck, false⟩
def dT12 : DefT := ⟨fun K => (gA K "_law_draw"), "_law_draw", "_law_draw", HH.s_law_draw, false⟩
def dT13 : DefT := ⟨fun K => (gA K "_law_pick"), "_law_pick", "_law_pick", HH.s_law_pick, false⟩
def dT14 : DefT := ⟨fun K => (gA K "_law_value"), "_law_value", "_law_value", HH.s_law_value, false⟩
def dT15 : DefT := ⟨fun K => (gA K "_law_made"), "_law_made", "_law_made", HH.s_law_made, false⟩
def dT16 : DefT := ⟨fun K => (gA K "_law_named"), "_law_named", "_law_named", HH.s_law_named, false⟩
def dT17 : DefT := ⟨fun K => (gA K "_law_told"), "_law_told", "_law_told", HH.s_law_told, false⟩
def dT18 : DefT := ⟨fun K => (gA K "_law_is_of"), "_law_is_of", "_law_is_of", HH.s_law_is_of, false⟩
def dT19 : DefT := ⟨fun K => (gA K "_law_raised"), "_law_raised", "_law_raised", HH.s_law_raised, false⟩
def dT20 : DefT := ⟨fun K => (gA K "_law_raised_too"), "_law_raised_too", "_law_raised_too", HH.s_law_raised_too, false⟩
def dT21 : DefT := ⟨fun K => (gA K "_law_caught"), "_law_caught", "_law_caught", HH.s_law_caught, false⟩
def dT22 : DefT := ⟨fun K => (gA K "law"), "law", "law", HH.s_law, false⟩
def dTs_0 : List DefT := [dT1, dT2, dT3, dT4, dT5, dT6, dT7, dT8, dT9, dT10, dT11, dT12]
def dTs_1 : List DefT := [dT13, dT14, dT15, dT16, dT17, dT18, dT19, dT20, dT21, dT22]
def dTs : List DefT := dTs_0 ++ (dTs_1)
def dcs_0 : List DicT := []
def dcs : List DicT := dcs_0
def names_0 : List PySem.Str := ["__name__", "WebError", "BadFormula", "BadText", "BadWeb", "BadRules", "UnknownMark", "Clash", "Apart", "BadBook", "UnknownPlayer", "NoPlayer"]
def names_1 : List PySem.Str := ["NothingToUndo", "NothingToRedo", "_law_deck", "_law_draw", "_law_pick", "_law_value", "_law_made", "_law_named", "_law_told", "_law_is_of", "_law_raised", "_law_raised_too"]
def names_2 : List PySem.Str := ["_law_caught"]
def names : List PySem.Str := names_0 ++ (names_1 ++ (names_2))
abbrev RW_ : PySem.W.OpenRow := PySem.W.OpenLaw.row PySem.Challenge.rw_allbeneath_k01_errors
abbrev qW : Program := PySem.W.view RW_.prog [26]
abbrev hkW : PySem.W.Hook := hookT tsts dTs dcs
def obW (s : PySem.W.SharedT) : AlT := obT tsts dTs dcs s
theorem obW_eq (s : PySem.W.SharedT) : obW s = hkW.obs s.abs := obT_eq s
theorem run_f (w : World) : HandSHeadRun.RunEq RW_ qW hkW obW 40000 names (w.withFollow "special-get-raises" false) := by
  intro os
  kernel_rfl
theorem run_t (w : World) : HandSHeadRun.RunEq RW_ qW hkW obW 40000 names (w.withFollow "special-get-raises" true) := by
  intro os
  kernel_rfl
theorem run_W : ∀ w : World, HandSHeadRun.RunEq RW_ qW hkW obW 40000 names w := PySem.W.byRow2 "special-get-raises" (P := fun w => HandSHeadRun.RunEq RW_ qW hkW obW 40000 names w) run_f run_t
end N
set_option Elab.async false
set_option linter.all false
set_option maxRecDepth 100000
namespace N
open PySem L2
/-- formulas -/
inductive Fm where
  | at (c : Nat) | no | imp (a b : Fm) | all (a : Fm)
  deriving DecidableEq
/-- plain data -/
inductive D where
  | vl (v : V)
  | tup (l : List D)
  | lst (l : List D)
  | dct (ks : List Key) (l : List D)
  | obj (c : Nat) (ns : List Str) (l : List D)
  | fm (f : Fm)
  | scr (l : List V)
  /-- a dict that is pinned -/
  | dcz (ks : List Key) (l : List D)
  /-- a dict whose keys are tuples -/
  | kdd (w : World) (ks : List D) (l : List D)
  /-- a tuple that is known to have no dict of its own -/
  | tupz (l : List D)
@[reducible] def D.int (i : Int) : D := .vl (.int i)
@[reducible] def D.bl (b : Bool) : D := .vl (.bl b)
@[reducible] def D.str (s : Str) : D := .vl (.str s)
@[reducible] def D.non : D := .vl .non
@[reducible] def D.adr (a : Addr) : D := .vl (.ref a)
mutual
/-- the key that a datum is -/
def nkOf : D → Option NestedKey
  | .vl .non => some .none
  | .vl (.bl b) => some (.num (if b = true then 1 else 0))
  | .vl (.int i) => some (.num i)
  | .vl (.str s) => some (.text s)
  | .vl _ => none
  | .tup l => (nkOfL l).map .tup
  | .lst _ => none
  | .dct _ _ => none
  | .obj _ _ _ => none
  | .fm _ => none
  | .scr _ => none
  | .kdd _ _ _ => none
  | .dcz _ _ => none
  | .tupz _ => none
def nkOfL : List D → Option (List NestedKey)
  | [] => some []
  | d :: l => match nkOf d, nkOfL l with
    | some k, some r => some (k :: r)
    | _, _ => none
end
/-- the module's written part, the classes' places -/
structure Kx where
  K : PySem.W.Frag
  cl : Nat → Addr
/-- what is kept of a formula: filled in by the texts that speak of formulas -/
structure FmKit where
  kind : Fm → Str
  many : Fm → Int
  deep : Fm → Int
  atoms : Fm → Str
  bare : Fm → Str
  spell : Fm → Str
  alls : Fm → List Fm
def AllR (R : Addr → Fm → Prop) : List Addr → List Fm → Prop
  | [], fs => fs = []
  | a :: as, fs => ∃ f r, fs = f :: r ∧ R a f ∧ AllR R as r
theorem AllR.imp {R S : Addr → Fm → Prop} (h : ∀ a f, R a f → S a f) : ∀ {as : List Addr} {fs : List Fm}, AllR R as fs → AllR S as fs
  | [], _, e => e
  | _ :: _, _, ⟨f, r, e, x, t⟩ => ⟨f, r, e, h _ _ x, AllR.imp h t⟩
def PartsR (R : Addr → Fm → Prop) : Fm → List V → Prop
  | .at c, ps => ps = [.str ⟨#[c]⟩]
  | .no, ps => ps = []
  | .imp a b, ps => ∃ p q, ps = [.ref p, .ref q] ∧ R p a ∧ R q b
  | .all a, ps => ∃ p, ps = [.ref p] ∧ R p a
theorem PartsR.imp {R S : Addr → Fm → Prop} (h : ∀ a f, R a f → S a f) : ∀ {f : Fm} {ps : List V}, PartsR R f ps → PartsR S f ps
  | .at _, _, e => e
  | .no, _, e => e
  | .imp _ _, _, ⟨p, q, e, x, y⟩ => ⟨p, q, e, h _ _ x, h _ _ y⟩
  | .all _, _, ⟨p, e, x⟩ => ⟨p, e, h _ _ x⟩
section
variable (F : FmKit) (T : Kx)
def fmNames : List Str := ["kind", "parts", "many", "deepest", "atoms", "bare", "spelled", "alls_known"]
def fmFields (f : Fm) (pa al : Addr) : List (Str × V) :=
  [("kind", .str (F.kind f)), ("parts", .ref pa), ("many", .int (F.many f)), ("deepest", .int (F.deep f)), ("atoms", .str (F.atoms f)), ("bare", .str (F.bare f)), ("spelled", .str (F.spell f)), ("alls_known", .ref al)]
def FStep (H : Hp) (R : Addr → Fm → Prop) (a : Addr) (f : Fm) : Prop :=
  ∃ dx pa ps al as, H a = some (.ins (T.cl 0) dx (fmFields F f pa al)) ∧ SqT T.K H pa ps ∧ PartsR R f ps ∧ SqT T.K H al (as.map V.ref) ∧ AllR R as (F.alls f)
def FormAt (H : Hp) (a : Addr) (f : Fm) : Prop := ∃ R : Addr → Fm → Prop, (∀ b g, R b g → FStep F T H R b g) ∧ R a f
end
theorem Same.sqT {K : PySem.W.Frag} {H H' : Hp} {a : Addr} {xs : List V} (e : Same H H') (h : SqT K H a xs) : SqT K H' a xs := by
  rcases h with (h | ⟨o, h⟩) | h
  · exact .inl (.inl (e _ _ h))
  · exact .inl (.inr ⟨o, e _ _ h⟩)
  · exact .inr h
section
variable {F : FmKit} {T : Kx} {H H' : Hp} {R S : Addr → Fm → Prop} {a : Addr} {f : Fm}
theorem FStep.imp (h : ∀ a f, R a f → S a f) (e : Same H H') (x : FStep F T H R a f) : FStep F T H' S a f := by
  obtain ⟨dx, pa, ps, al, as, h1, h2, h3, h4, h5⟩ := x
  exact ⟨dx, pa, ps, al, as, e _ _ h1, Same.sqT e h2, h3.imp h, Same.sqT e h4, h5.imp h⟩
theorem FormAt.mono (e : Same H H') (x : FormAt F T H a f) : FormAt F T H' a f := by
  obtain ⟨R, h, r⟩ := x
  exact ⟨R, fun b g y => (h b g y).imp (fun _ _ z => z) e, r⟩
theorem FormAt.out (x : FormAt F T H a f) : FStep F T H (FormAt F T H) a f := by
  obtain ⟨R, h, r⟩ := x
  exact (h a f r).imp (fun b g y => ⟨R, h, y⟩) (Same.refl _)
theorem FormAt.mk (x : FStep F T H (fun b g => FormAt F T H b g ∨ (b = a ∧ g = f)) a f) : FormAt F T H a f := by
  refine ⟨fun b g => FormAt F T H b g ∨ (b = a ∧ g = f), fun b g y => ?_, .inr ⟨rfl, rfl⟩⟩
  rcases y with y | ⟨rfl, rfl⟩
  · exact y.out.imp (fun _ _ z => .inl z) (Same.refl _)
  · exact x
end
/-- a dict whose keys are nested tuples: its cell alone -/
def NkRaw (w : World) (h : Heap) (p : Addr) (as : List (NestedKey × Addr × V)) : Prop := ∃ (o : Obj) (es : Array DictEntry) (ep : Nat) (us : List (NestedKey × Addr × Value)),
  (p == sysModules) = false ∧ h.get? p = some o ∧ o.ExactDict ∧ o.data = .dict es ep ∧ es.toList = us.map (fun x => (⟨x.1.hash w, .ref x.2.1, x.2.2⟩ : DictEntry)) ∧ Paired (fun (a : NestedKey × Addr × V) (u : NestedKey × Addr × Value) => a.1 = u.1 ∧ a.2.1 = u.2.1 ∧ RelV a.2.2 u.2.2) as us
def NkO (w : World) (p : Addr) (as : List (NestedKey × Addr × V)) : HO := .ext fun h => NkRaw w h p as
mutual
/-- the value is such a key -/
def NkV (K : PySem.W.Frag) (H : Hp) : NestedKey → V → Prop
  | .none, v => v = .non
  | .num i, v => v = .int i ∨ ∃ b : Bool, v = .bl b ∧ i = if b = true then 1 else 0
  | .text s, v => v = .str s
  | .tup ks, v => ∃ a xs, v = .ref a ∧ SqT K H a xs ∧ NkL K H ks xs
def NkL (K : PySem.W.Frag) (H : Hp) : List NestedKey → List V → Prop
  | [], vs => vs = []
  | k :: ks, vs => ∃ v r, vs = v :: r ∧ NkV K H k v ∧ NkL K H ks r
end
mutual
theorem NkV.mono {K : PySem.W.Frag} {H H' : Hp} (e : Same H H') : ∀ (k : NestedKey) (v : V), NkV K H k v → NkV K H' k v
  | .none, _, h => h
  | .num _, _, h => h
  | .text _, _, h => h
  | .tup ks, _, ⟨a, xs, h1, h2, h3⟩ => ⟨a, xs, h1, Same.sqT e h2, NkL.mono e ks xs h3⟩
theorem NkL.mono {K : PySem.W.Frag} {H H' : Hp} (e : Same H H') : ∀ (ks : List NestedKey) (vs : List V), NkL K H ks vs → NkL K H' ks vs
  | [], _, h => h
  | k :: ks, _, ⟨v, r, h1, h2, h3⟩ => ⟨v, r, h1, NkV.mono e k v h2, NkL.mono e ks r h3⟩
end
section
variable (F : FmKit) (T : Kx) (H : Hp)
mutual
def Den : D → V → Prop
  | .vl w, v => v = w
  | .tup l, v => ∃ a xs, v = .ref a ∧ SqT T.K H a xs ∧ DenL l xs
  | .lst l, v => ∃ a xs, v = .ref a ∧ H a = some (.lst xs) ∧ DenL l xs
  | .dct ks l, v => ∃ a kvs, v = .ref a ∧ H a = some (.dK kvs) ∧ kvs.map (·.1) = ks ∧ ks.Nodup ∧ DenL l (kvs.map (·.2))
  | .dcz ks l, v => ∃ a o kvs, v = .ref a ∧ H a = some (.frz o (.dK kvs)) ∧ kvs.map (·.1) = ks ∧ ks.Nodup ∧ DenL l (kvs.map (·.2))
  | .obj c ns l, v => ∃ a dx fs, v = .ref a ∧ H a = some (.ins (T.cl c) dx fs) ∧ fs.map (·.1) = ns ∧ DenL l (fs.map (·.2))
  | .fm f, v => ∃ a, v = .ref a ∧ FormAt F T H a f
  | .scr l, v => ∃ a, v = .ref a ∧ SqL T.K H a l
  | .kdd w ks l, v => ∃ a o as, v = .ref a ∧ H a = some (.frz o (NkO w a as)) ∧ (as.map fun z => some z.1) = ks.map nkOf ∧ (as.map (·.1)).Nodup ∧ (∀ z ∈ as, NkV T.K H z.1 (.ref z.2.1) ∧ z.1.depth ≤ 8) ∧ DenL ks (as.map fun z => .ref z.2.1) ∧ DenL l (as.map (·.2.2))
  | .tupz l, v => ∃ a xs o, v = .ref a ∧ H a = some (.frz o (.tup xs)) ∧ o.dict = none ∧ DenL l xs
def DenL : List D → List V → Prop
  | [], vs => vs = []
  | d :: l, vs => ∃ v r, vs = v :: r ∧ Den d v ∧ DenL l r
end
end
section
variable {F : FmKit} {T : Kx} {H H' : Hp}
mutual
theorem Den.mono (e : Same H H') : ∀ (d : D) (v : V), Den F T H d v → Den F T H' d v
  | .vl _, _, h => h
  | .tup l, _, ⟨a, xs, h1, h2, h3⟩ => ⟨a, xs, h1, Same.sqT e h2, DenL.mono e l xs h3⟩
  | .lst l, _, ⟨a, xs, h1, h2, h3⟩ => ⟨a, xs, h1, e _ _ h2, DenL.mono e l xs h3⟩
  | .dct ks l, _, ⟨a, kvs, h1, h2, h3, h4, h5⟩ => ⟨a, kvs, h1, e _ _ h2, h3, h4, DenL.mono e l _ h5⟩
  | .dcz ks l, _, ⟨a, o, kvs, h1, h2, h3, h4, h5⟩ => ⟨a, o, kvs, h1, e _ _ h2, h3, h4, DenL.mono e l _ h5⟩
  | .obj c ns l, _, ⟨a, dx, fs, h1, h2, h3, h4⟩ => ⟨a, dx, fs, h1, e _ _ h2, h3, DenL.mono e l _ h4⟩
  | .fm f, _, ⟨a, h1, h2⟩ => ⟨a, h1, h2.mono e⟩
  | .scr l, _, ⟨a, h1, h2⟩ => ⟨a, h1, e.seq h2⟩
  | .kdd w ks l, _, ⟨a, o, as, h1, h2, h3, h4, h5, h6, h7⟩ => ⟨a, o, as, h1, e _ _ h2, h3, h4, fun z hz => ⟨NkV.mono e _ _ (h5 z hz).1, (h5 z hz).2⟩, DenL.mono e ks _ h6, DenL.mono e l _ h7⟩
  | .tupz l, _, ⟨a, xs, o, h1, h2, h3, h4⟩ => ⟨a, xs, o, h1, e _ _ h2, h3, DenL.mono e l xs h4⟩
theorem DenL.mono (e : Same H H') : ∀ (l : List D) (vs : List V), DenL F T H l vs → DenL F T H' l vs
  | [], _, h => h
  | d :: l, _, ⟨v, r, h1, h2, h3⟩ => ⟨v, r, h1, Den.mono e d v h2, DenL.mono e l r h3⟩
end
theorem DenL.len : ∀ {l : List D} {vs : List V}, DenL F T H l vs → vs.length = l.length
  | [], _, h => by
    have h : _ = [] := h
    rw [h]
    rfl
  | d :: l, _, ⟨v, r, h1, _, h3⟩ => by
    rw [h1, List.length_cons, List.length_cons, DenL.len h3]
theorem DenL.get : ∀ {l : List D} {vs : List V} {i : Nat} {d : D}, DenL F T H l vs → l[i]? = some d → ∃ v, vs[i]? = some v ∧ Den F T H d v
  | [], _, i, d, _, e => by simp at e
  | x :: l, _, 0, d, ⟨v, r, h1, h2, _⟩, e => by
    subst h1
    have e : x = d := Option.some.inj e
    subst e
    exact ⟨v, rfl, h2⟩
  | x :: l, _, i + 1, d, ⟨v, r, h1, _, h3⟩, e => by
    subst h1
    exact DenL.get (i := i) (d := d) h3 e
theorem DenL.at : ∀ {l : List D} {vs : List V} {i : Nat} {v : V}, DenL F T H l vs → vs[i]? = some v → ∃ d, l[i]? = some d ∧ Den F T H d v
  | [], _, i, v, h, e => by
    have h : _ = [] := h
    rw [h] at e
    simp at e
  | x :: l, _, 0, v, ⟨u, r, h1, h2, _⟩, e => by
    subst h1
    have e : u = v := Option.some.inj e
    subst e
    exact ⟨x, rfl, h2⟩
  | x :: l, _, i + 1, v, ⟨u, r, h1, _, h3⟩, e => by
    subst h1
    exact DenL.at (i := i) (v := v) h3 e
theorem DenL.app : ∀ {l m : List D} {vs us : List V}, DenL F T H l vs → DenL F T H m us → DenL F T H (l ++ m) (vs ++ us)
  | [], m, _, us, h, k => by
    have h : _ = [] := h
    subst h
    exact k
  | d :: l, m, _, us, ⟨v, r, h1, h2, h3⟩, k => by
    subst h1
    exact ⟨v, r ++ us, rfl, h2, DenL.app h3 k⟩
theorem DenL.app_inv : ∀ {l m : List D} {vs : List V}, DenL F T H (l ++ m) vs → ∃ us ws, vs = us ++ ws ∧ DenL F T H l us ∧ DenL F T H m ws
  | [], m, vs, h => ⟨[], vs, rfl, rfl, h⟩
  | d :: l, m, _, ⟨v, r, h1, h2, h3⟩ => by
    obtain ⟨us, ws, e, p, q⟩ := DenL.app_inv (l := l) h3
    exact ⟨v :: us, ws, by rw [h1, e] <;> rfl, ⟨v, us, rfl, h2, p⟩, q⟩
theorem DenL.set : ∀ {l : List D} {vs : List V} {i : Nat} {d : D} {v : V}, DenL F T H l vs → Den F T H d v → DenL F T H (l.set i d) (vs.set i v)
  | [], _, i, d, v, h, _ => by
    have h : _ = [] := h
    subst h
    rfl
  | x :: l, _, 0, d, v, ⟨u, r, h1, _, h3⟩, k => by
    subst h1
    exact ⟨v, r, rfl, k, h3⟩
  | x :: l, _, i + 1, d, v, ⟨u, r, h1, h2, h3⟩, k => by
    subst h1
    exact ⟨u, r.set i v, rfl, h2, DenL.set h3 k⟩
theorem DenL.one {d : D} {v : V} (h : Den F T H d v) : DenL F T H [d] [v] := ⟨v, [], rfl, h, rfl⟩
theorem DenL.vls (vs : List V) : DenL F T H (vs.map D.vl) vs := by
  induction vs with
  | nil => rfl
  | cons v r ih => exact ⟨v, r, rfl, rfl, ih⟩
theorem DenL.vls_inv : ∀ {ws vs : List V}, DenL F T H (ws.map D.vl) vs → vs = ws
  | [], _, h => h
  | w :: ws, _, ⟨v, r, h1, h2, h3⟩ => by
    have h2 : v = w := h2
    rw [h1, h2, DenL.vls_inv (ws := ws) h3]
theorem DenL.reverse : ∀ {l : List D} {vs : List V}, DenL F T H l vs → DenL F T H l.reverse vs.reverse
  | [], _, h => by
    have h : _ = [] := h
    subst h
    rfl
  | d :: l, _, ⟨v, r, h1, h2, h3⟩ => by
    subst h1
    rw [List.reverse_cons, List.reverse_cons]
    exact (DenL.reverse h3).app (DenL.one h2)
theorem DenL.take : ∀ {l : List D} {vs : List V} (n : Nat), DenL F T H l vs → DenL F T H (l.take n) (vs.take n)
  | l, vs, 0, _ => by
    rw [List.take_zero, List.take_zero]
    rfl
  | [], _, n + 1, h => by
    have h : _ = [] := h
    subst h
    rfl
  | d :: l, _, n + 1, ⟨v, r, h1, h2, h3⟩ => by
    subst h1
    exact ⟨v, r.take n, rfl, h2, DenL.take n h3⟩
theorem DenL.drop : ∀ {l : List D} {vs : List V} (n : Nat), DenL F T H l vs → DenL F T H (l.drop n) (vs.drop n)
  | l, vs, 0, h => h
  | [], _, n + 1, h => by
    have h : _ = [] := h
    subst h
    rfl
  | d :: l, _, n + 1, ⟨v, r, h1, h2, h3⟩ => by
    subst h1
    exact DenL.drop n h3
end
def ov (O H : Hp) : Hp := fun b => match O b with | some o => some o | none => H b
def Dis (O H : Hp) : Prop := ∀ b o, O b = some o → H b = none
section
variable {O O' H H' : Hp} {a b : Addr} {o u : HO}
theorem ov_own (h : O b = some o) : ov O H b = some o := by
  unfold ov
  rw [h]
theorem ov_fro (h : O b = none) : ov O H b = H b := by
  unfold ov
  rw [h]
theorem ov_none (h : ov O H b = none) : O b = none ∧ H b = none := by
  unfold ov at h
  cases e : O b with
  | none =>
    rw [e] at h
    exact ⟨rfl, h⟩
  | some o =>
    rw [e] at h
    cases h
theorem Dis.same (d : Dis O H) : Same H (ov O H) := fun b o h => by
  cases e : O b with
  | none => rw [ov_fro e, h]
  | some x =>
    rw [d b x e] at h
    cases h
theorem ov_updH (h : O a = none) : upd (ov O H) a o = ov O (upd H a o) := by
  funext b
  by_cases e : b = a
  · subst e
    rw [upd_same, ov_fro h, upd_same]
  · rw [upd_ne e]
    unfold ov
    rw [upd_ne e]
theorem ov_updO : upd (ov O H) a o = ov (upd O a o) H := by
  funext b
  by_cases e : b = a
  · subst e
    rw [upd_same, ov_own upd_same]
  · rw [upd_ne e]
    unfold ov
    rw [upd_ne e]
theorem Dis.updH (d : Dis O H) (h : O a = none) : Dis O (upd H a o) := fun b x e => by
  have n : b ≠ a := fun q => by
    subst q
    rw [h] at e
    cases e
  rw [upd_ne n]
  exact d b x e
theorem Dis.updO (d : Dis O H) (h : H a = none) : Dis (upd O a o) H := fun b x e => by
  by_cases q : b = a
  · subst q
    exact h
  · rw [upd_ne q] at e
    exact d b x e
theorem same_upd (h : H a = none) : Same H (upd H a o) := fun b x e => by
  rw [upd_ne (ne_of_none e h)]
  exact e
/-- a cell taken out -/
def del (O : Hp) (a : Addr) : Hp := fun b => if b = a then none else O b
theorem del_same : del O a a = none := by
  unfold del
  rw [if_pos rfl]
theorem del_ne (h : b ≠ a) : del O a b = O b := by
  unfold del
  rw [if_neg h]
theorem ov_freeze (h : O a = some o) : ov O H = ov (del O a) (upd H a o) := by
  funext b
  by_cases e : b = a
  · subst e
    rw [ov_own h, ov_fro del_same, upd_same]
  · unfold ov
    rw [del_ne e, upd_ne e]
theorem Dis.freeze (d : Dis O H) : Dis (del O a) (upd H a o) := fun b x e => by
  by_cases q : b = a
  · subst q
    rw [del_same] at e
    cases e
  · rw [del_ne q] at e
    rw [upd_ne q]
    exact d b x e
end
end N
set_option Elab.async false
set_option linter.all false
set_option maxRecDepth 100000
namespace N
open PySem L2
/-- what an owned cell holds -/
inductive OD where
  | lst (l : List D)
  | dct (ks : List Key) (l : List D)
  | ins (c : Nat) (ns : List Str) (l : List D)
  | any (o : HO)
  | lk (z : Obj) (kvs : List (Key × V)) (ks : List Key) (l : List D)
  | nk (w : World) (p : Addr) (ks : List (NestedKey × D))
  | kd (w : World) (p : Addr) (ps : List (D × D))
  | xd (ns : List Str) (l : List D)
abbrev Gm := List (Option D)
abbrev Om := List (Addr × OD)
def akeys (W : Om) : List Addr := W.map (·.1)
section
variable (F : FmKit) (T : Kx)
def OdAt (H : Hp) (x : Option HO) : OD → Prop
  | .lst l => ∃ xs, x = some (.lst xs) ∧ DenL F T H l xs
  | .dct ks l => ∃ kvs, x = some (.dK kvs) ∧ kvs.map (·.1) = ks ∧ ks.Nodup ∧ DenL F T H l (kvs.map (·.2))
  | .ins c ns l => ∃ dx fs, x = some (.ins (T.cl c) dx fs) ∧ fs.map (·.1) = ns ∧ DenL F T H l (fs.map (·.2))
  | .any o => x = some o
  | .lk z kvs ks l => x = some (.frz z (.dK kvs)) ∧ kvs.map (·.1) = ks ∧ ks.Nodup ∧ DenL F T H l (kvs.map (·.2))
  | .nk w p ks => ∃ as, x = some (NkO w p as) ∧ as.map (·.1) = ks.map (·.1) ∧ (ks.map (·.1)).Nodup ∧ (∀ z ∈ as, NkV T.K H z.1 (.ref z.2.1) ∧ z.1.depth ≤ 8) ∧ DenL F T H (ks.map (·.2)) (as.map (·.2.2))
  | .kd w p ps => ∃ as, x = some (NkO w p as) ∧ (as.map fun z => some z.1) = ps.map (fun z => nkOf z.1) ∧ (as.map (·.1)).Nodup ∧ (∀ z ∈ as, NkV T.K H z.1 (.ref z.2.1) ∧ z.1.depth ≤ 8) ∧ DenL F T H (ps.map (·.1)) (as.map fun z => .ref z.2.1) ∧ DenL F T H (ps.map (·.2)) (as.map (·.2.2))
  | .xd ns l => ∃ fs, x = some (.xd fs) ∧ fs.map (·.1) = ns ∧ DenL F T H l (fs.map (·.2))
/-- the slots -/
structure Lo (H : Hp) (G : Gm) (σ : St) : Prop where
  len : σ.length = G.length
  at_ : ∀ (i : Nat) (d : D), G[i]? = some (some d) → ∃ v, σ[i]? = some (some v) ∧ Den F T H d v
structure Ow (H C O : Hp) (W : Om) : Prop where
  nd : (akeys W).Nodup
  at_ : ∀ a od, (a, od) ∈ W → C a = none ∧ OdAt F T H (O a) od
/-- frozen H, owned O (the callers' part C of it), slots, owned cells -/
structure Wd (C : Hp) (G : Gm) (W : Om) (H O : Hp) (σ : St) : Prop where
  dis : Dis O H
  oc : Same C O
  loc : Lo F T H G σ
  own : Ow F T H C O W
/-- behind a step -/
structure Nx (C : Hp) (W : Om) (H H' O' : Hp) : Prop where
  ext : Same H H'
  dis : Dis O' H'
  oc : Same C O'
  own : Ow F T H' C O' W
end
section
variable {F : FmKit} {T : Kx} {H H' H1 C O O' : Hp} {G : Gm} {W W' : Om} {σ : St}
theorem OdAt.mono {x : Option HO} (e : Same H H') : ∀ {od : OD}, OdAt F T H x od → OdAt F T H' x od
  | .lst l, ⟨xs, h, k⟩ => ⟨xs, h, k.mono e⟩
  | .dct ks l, ⟨kvs, h, n, d, k⟩ => ⟨kvs, h, n, d, k.mono e⟩
  | .ins c ns l, ⟨dx, fs, h, n, k⟩ => ⟨dx, fs, h, n, k.mono e⟩
  | .any o, h => h
  | .lk z kvs ks l, ⟨h, n, d, k⟩ => ⟨h, n, d, k.mono e⟩
  | .nk w p ks, ⟨as, h, n, d, k, q⟩ => ⟨as, h, n, d, fun z hz => ⟨NkV.mono e _ _ (k z hz).1, (k z hz).2⟩, q.mono e⟩
  | .kd w p ps, ⟨as, h, n, d, k, q, r⟩ => ⟨as, h, n, d, fun z hz => ⟨NkV.mono e _ _ (k z hz).1, (k z hz).2⟩, q.mono e, r.mono e⟩
  | .xd ns l, ⟨fs, h, n, k⟩ => ⟨fs, h, n, k.mono e⟩
theorem OdAt.some {x : Option HO} : ∀ {od : OD}, OdAt F T H x od → ∃ o, x = some o
  | .lst l, ⟨xs, h, k⟩ => ⟨_, h⟩
  | .dct ks l, ⟨kvs, h, n, d, k⟩ => ⟨_, h⟩
  | .ins c ns l, ⟨dx, fs, h, n, k⟩ => ⟨_, h⟩
  | .any o, h => ⟨_, h⟩
  | .lk z kvs ks l, ⟨h, n, d, k⟩ => ⟨_, h⟩
  | .nk w p ks, ⟨as, h, _⟩ => ⟨_, h⟩
  | .kd w p ps, ⟨as, h, _⟩ => ⟨_, h⟩
  | .xd ns l, ⟨fs, h, n, k⟩ => ⟨_, h⟩
theorem Lo.mono (e : Same H H') (l : Lo F T H G σ) : Lo F T H' G σ :=
  ⟨l.len, fun i d h => let ⟨v, a, b⟩ := l.at_ i d h; ⟨v, a, b.mono e⟩⟩
theorem Lo.set {i : Nat} {d : D} {v : V} (l : Lo F T H G σ) (h : Den F T H d v) : Lo F T H (G.set i (some d)) (σ.set i (some v)) := by
  refine ⟨by rw [List.length_set, List.length_set]; exact l.len, fun j d' e => ?_⟩
  by_cases q : i = j
  · subst q
    have hi : i < G.length := by
      have := (List.getElem?_eq_some_iff.mp e).1
      rwa [List.length_set] at this
    rw [List.getElem?_set_self hi] at e
    have e : d = d' := Option.some.inj (Option.some.inj e)
    subst e
    exact ⟨v, by rw [List.getElem?_set_self (by rw [l.len]; exact hi)], h⟩
  · rw [List.getElem?_set_ne q] at e
    rw [List.getElem?_set_ne q]
    exact l.at_ j d' e
theorem Lo.forget {i : Nat} (l : Lo F T H G σ) (x : Option V) : Lo F T H (G.set i none) (σ.set i x) := by
  refine ⟨by rw [List.length_set, List.length_set]; exact l.len, fun j d' e => ?_⟩
  by_cases q : i = j
  · subst q
    have hi : i < G.length := by
      have := (List.getElem?_eq_some_iff.mp e).1
      rwa [List.length_set] at this
    rw [List.getElem?_set_self hi] at e
    cases e
  · rw [List.getElem?_set_ne q] at e
    rw [List.getElem?_set_ne q]
    exact l.at_ j d' e
theorem Ow.mono (e : Same H H') (o : Ow F T H C O W) : Ow F T H' C O W := ⟨o.nd, fun a od h => ⟨(o.at_ a od h).1, (o.at_ a od h).2.mono e⟩⟩
theorem Ow.notin {a : Addr} (o : Ow F T H C O W) (h : O a = none) : a ∉ akeys W := fun z => by
  obtain ⟨p, hp, e⟩ := List.mem_map.mp z
  obtain ⟨x, q⟩ := (o.at_ p.1 p.2 hp).2.some
  rw [e, h] at q
  cases q
theorem Nx.refl (d : Dis O H) (oc : Same C O) (o : Ow F T H C O W) : Nx F T C W H H O := ⟨Same.refl _, d, oc, o⟩
theorem Wd.nx (w : Wd F T C G W H O σ) : Nx F T C W H H O := ⟨Same.refl _, w.dis, w.oc, w.own⟩
theorem Nx.trans (a : Nx F T C W H H1 O) (b : Nx F T C W' H1 H' O') : Nx F T C W' H H' O' := ⟨a.ext.trans b.ext, b.dis, b.oc, b.own⟩
theorem Wd.step (w : Wd F T C G W H O σ) (n : Nx F T C W' H H' O') : Wd F T C G W' H' O' σ := ⟨n.dis, n.oc, w.loc.mono n.ext, n.own⟩
end
section
variable (F : FmKit) (T : Kx)
/-- te, at the slots G and the owned cells W, gives a d and leaves owned cells so that R -/
def Ev (te : TE) (G : Gm) (W : Om) (R : D → Om → Prop) : Prop :=
  ∀ (C H O : Hp) (σ : St), Wd F T C G W H O σ → ∀ Q : VK, (∀ d W' H' O' v, R d W' → Nx F T C W' H H' O' → Den F T H' d v → Q v (ov O' H')) → te σ (ov O H) Q
def EvT (t : TT) (G : Gm) (W : Om) (R : Bool → Om → Prop) : Prop :=
  ∀ (C H O : Hp) (σ : St), Wd F T C G W H O σ → ∀ Q : Bool → Hp → Prop, (∀ b W' H' O', R b W' → Nx F T C W' H H' O' → Q b (ov O' H')) → t σ (ov O H) Q
def EvA (ta : TA) (G : Gm) (W : Om) (R : List D → Om → Prop) : Prop :=
  ∀ (C H O : Hp) (σ : St), Wd F T C G W H O σ → ∀ Q : List V → Hp → Prop, (∀ ds W' H' O' vs, R ds W' → Nx F T C W' H H' O' → DenL F T H' ds vs → Q vs (ov O' H')) → ta σ (ov O H) Q
def EvO (to : TO) (G : Gm) (W : Om) (R : Option Int → Om → Prop) : Prop :=
  ∀ (C H O : Hp) (σ : St), Wd F T C G W H O σ → ∀ Q : Option Int → Hp → Prop, (∀ i W' H' O', R i W' → Nx F T C W' H H' O' → Q i (ov O' H')) → to σ (ov O H) Q
/-- an operation on two data -/
def Bo (r : R2) (d1 d2 : D) (W : Om) (R : D → Om → Prop) : Prop :=
  ∀ (C H O : Hp), Dis O H → Same C O → Ow F T H C O W → ∀ x y, Den F T H d1 x → Den F T H d2 y → ∀ Q : VK, (∀ d W' H' O' v, R d W' → Nx F T C W' H H' O' → Den F T H' d v → Q v (ov O' H')) → r x y (ov O H) Q
/-- a call on data -/
def Ca (r : List V → Hp → VK → Prop) (ds : List D) (W : Om) (R : D → Om → Prop) : Prop :=
  ∀ (C H O : Hp), Dis O H → Same C O → Ow F T H C O W → ∀ vs, DenL F T H ds vs → ∀ Q : VK, (∀ d W' H' O' v, R d W' → Nx F T C W' H H' O' → Den F T H' d v → Q v (ov O' H')) → r vs (ov O H) Q
structure En where
  nx : Gm → Om → Prop
  rt : D → Om → Prop
  bk : Gm → Om → Prop := fun _ _ => False
  ct : Gm → Om → Prop := fun _ _ => False
/-- the ends at heaps are met by the ends at data -/
structure EnOk (C H : Hp) (E : En) (B : Ends) : Prop where
  nx : ∀ G W H' O' σ', E.nx G W → Nx F T C W H H' O' → Lo F T H' G σ' → B.nx σ' (ov O' H')
  rt : ∀ d W H' O' v, E.rt d W → Nx F T C W H H' O' → Den F T H' d v → B.rt v (ov O' H')
  bk : ∀ G W H' O' σ', E.bk G W → Nx F T C W H H' O' → Lo F T H' G σ' → B.bk σ' (ov O' H')
  ct : ∀ G W H' O' σ', E.ct G W → Nx F T C W H H' O' → Lo F T H' G σ' → B.ct σ' (ov O' H')
def Sw (ts : TS) (G : Gm) (W : Om) (E : En) : Prop :=
  ∀ (C H O : Hp) (σ : St), Wd F T C G W H O σ → ∀ B : Ends, EnOk F T C H E B → ts B σ (ov O H)
/-- a target of names -/
def Tg (g : TG) (d : D) (G : Gm) (R : Gm → Prop) : Prop :=
  ∀ (H H1 : Hp) (σ : St) (v : V), Lo F T H G σ → Same H H1 → Den F T H d v → ∀ Q : St → Hp → Prop, (∀ G' σ', R G' → Lo F T H G' σ' → Q σ' H1) → g v σ H1 Q
/-- an iterator over data -/
def Wk (J : It) (H0 : Hp) (ds : List D) : Prop :=
  ∀ (i : Nat) (H O : Hp), Same H0 H → Dis O H →
    (∀ d, ds[i]? = some d → J.go i (ov O H) ∧ ∀ x H2, J.yld i (ov O H) x H2 → ∃ H', Same H H' ∧ Dis O H' ∧ H2 = ov O H' ∧ Den F T H' d x) ∧ (i = ds.length → J.stop i (ov O H))
def EvI (wi : TI) (G : Gm) (W : Om) (R : List D → Om → Prop) : Prop :=
  ∀ (C H O : Hp) (σ : St), Wd F T C G W H O σ → ∀ Q : It → Hp → Prop, (∀ J ds W' H' O', R ds W' → Nx F T C W' H H' O' → Wk F T J H' ds → Q J (ov O' H')) → wi σ (ov O H) Q
end
def E_ (post : D → Om → Prop) : En := { nx := fun _ W => post .non W, rt := post }
section
variable {F : FmKit} {T : Kx} {C H H' O O' : Hp} {G : Gm} {W W' : Om} {σ : St} {E E' : En} {B : Ends}
theorem EnOk.up (h : EnOk F T C H E B) (e : Same H H') : EnOk F T C H' E B :=
  ⟨fun G W H2 O' σ' a n l => h.nx G W H2 O' σ' a ⟨e.trans n.ext, n.dis, n.oc, n.own⟩ l, fun d W H2 O' v a n l => h.rt d W H2 O' v a ⟨e.trans n.ext, n.dis, n.oc, n.own⟩ l,
   fun G W H2 O' σ' a n l => h.bk G W H2 O' σ' a ⟨e.trans n.ext, n.dis, n.oc, n.own⟩ l, fun G W H2 O' σ' a n l => h.ct G W H2 O' σ' a ⟨e.trans n.ext, n.dis, n.oc, n.own⟩ l⟩
variable {te ta tb : TE} {t u : TT} {R R' : D → Om → Prop} {S S' : Bool → Om → Prop} {tr : TA} {ts tz : TS}
theorem Ev.imp (h : Ev F T te G W R) (i : ∀ d W', R d W' → R' d W') : Ev F T te G W R' := fun C H O σ w Q q => h C H O σ w Q fun d W' H' O' v r n k => q d W' H' O' v (i d W' r) n k
theorem EvT.imp (h : EvT F T t G W S) (i : ∀ b W', S b W' → S' b W') : EvT F T t G W S' := fun C H O σ w Q q => h C H O σ w Q fun d W' H' O' r n => q d W' H' O' (i d W' r) n
theorem Sw.imp (h : Sw F T ts G W E) (h1 : ∀ G W, E.nx G W → E'.nx G W) (h2 : ∀ d W, E.rt d W → E'.rt d W) (h3 : ∀ G W, E.bk G W → E'.bk G W) (h4 : ∀ G W, E.ct G W → E'.ct G W) : Sw F T ts G W E' :=
  fun C H O σ w B b => h C H O σ w B ⟨fun G W H' O' σ' a => b.nx G W H' O' σ' (h1 G W a), fun d W H' O' v a => b.rt d W H' O' v (h2 d W a), fun G W H' O' σ' a => b.bk G W H' O' σ' (h3 G W a), fun G W H' O' σ' a => b.ct G W H' O' σ' (h4 G W a)⟩
theorem ev_var {i : Nat} {d : D} (h : G[i]? = some (some d)) (r : R d W) : Ev F T (tVar i) G W R := fun C H O σ w Q q =>
  let ⟨v, e, k⟩ := w.loc.at_ i d h
  ⟨v, e, q d W H O v r w.nx k⟩
theorem ev_c {v : V} (r : R (.vl v) W) : Ev F T (tC v) G W R := fun C H O σ w Q q => q (.vl v) W H O v r w.nx rfl
theorem ev_op {r : R2} (h : Ev F T ta G W fun d1 W1 => Ev F T tb G W1 fun d2 W2 => Bo F T r d1 d2 W2 R) : Ev F T (tOp r ta tb) G W R := fun C H O σ w Q q =>
  h C H O σ w _ fun d1 W1 H1 O1 x h1 n1 k1 => h1 C H1 O1 σ (w.step n1) _ fun d2 W2 H2 O2 y h2 n2 k2 =>
    h2 C H2 O2 n2.dis n2.oc n2.own x y (k1.mono n2.ext) k2 Q fun d W' H' O' v rr n k => q d W' H' O' v rr ((n1.trans n2).trans n) k
theorem ev_cb {r : List V → Hp → VK → Prop} (h : EvA F T tr G W fun ds W1 => Ca F T r ds W1 R) : Ev F T (tCB r tr) G W R := fun C H O σ w Q q =>
  h C H O σ w _ fun ds W1 H1 O1 vs h1 n1 k1 => h1 C H1 O1 n1.dis n1.oc n1.own vs k1 Q fun d W' H' O' v rr n k => q d W' H' O' v rr (n1.trans n) k
theorem ea_nil {Z : List D → Om → Prop} (r : Z [] W) : EvA F T tNil G W Z := fun C H O σ w Q q => q [] W H O [] r w.nx rfl
theorem ea_cons {Z : List D → Om → Prop} (h : Ev F T ta G W fun d W1 => EvA F T tr G W1 fun ds W2 => Z (d :: ds) W2) : EvA F T (tCons ta tr) G W Z := fun C H O σ w Q q =>
  h C H O σ w _ fun d W1 H1 O1 x h1 n1 k1 => h1 C H1 O1 σ (w.step n1) _ fun ds W2 H2 O2 vs h2 n2 k2 => q (d :: ds) W2 H2 O2 (x :: vs) h2 (n1.trans n2) ⟨x, vs, rfl, k1.mono n2.ext, k2⟩
theorem et_test (h : Ev F T te G W fun d W1 => ∃ b, d = .bl b ∧ S b W1) : EvT F T (tTest te) G W S := fun C H O σ w Q q =>
  h C H O σ w _ fun d W1 H1 O1 x ⟨b, e, s⟩ n k => by
    subst e
    have k : x = .bl b := k
    exact ⟨b, k, q b W1 H1 O1 s n⟩
theorem et_B (h : Ev F T te G W fun d W1 => ∃ b, d = .bl b ∧ S b W1) : EvT F T (tB te) G W S := et_test h
theorem et_not (h : EvT F T t G W fun b W1 => S (!b) W1) : EvT F T (tNot t) G W S := fun C H O σ w Q q => h C H O σ w _ fun b W1 H1 O1 s n => q (!b) W1 H1 O1 s n
theorem et_and (h : EvT F T t G W fun b W1 => if b = true then EvT F T u G W1 S else S false W1) : EvT F T (tAnd t u) G W S := fun C H O σ w Q q =>
  h C H O σ w _ fun b W1 H1 O1 s n => by
    cases b with
    | true => exact s C H1 O1 σ (w.step n) _ fun b W2 H2 O2 s2 n2 => q b W2 H2 O2 s2 (n.trans n2)
    | false => exact q false W1 H1 O1 s n
theorem et_or (h : EvT F T t G W fun b W1 => if b = true then S true W1 else EvT F T u G W1 S) : EvT F T (tOr t u) G W S := fun C H O σ w Q q =>
  h C H O σ w _ fun b W1 H1 O1 s n => by
    cases b with
    | true => exact q true W1 H1 O1 s n
    | false => exact s C H1 O1 σ (w.step n) _ fun b W2 H2 O2 s2 n2 => q b W2 H2 O2 s2 (n.trans n2)
theorem ev_andV (h : Ev F T ta G W fun d W1 => ∃ b, d = .bl b ∧ if b = true then Ev F T tb G W1 R else R (.bl false) W1) : Ev F T (tAndV ta tb) G W R := fun C H O σ w Q q =>
  h C H O σ w _ fun d W1 H1 O1 x ⟨b, e, s⟩ n k => by
    subst e
    have k : x = .bl b := k
    refine ⟨b, k, ?_⟩
    cases b with
    | true => exact s C H1 O1 σ (w.step n) _ fun d W2 H2 O2 v s2 n2 k2 => q d W2 H2 O2 v s2 (n.trans n2) k2
    | false => exact q _ W1 H1 O1 _ s n rfl
theorem ev_orV (h : Ev F T ta G W fun d W1 => ∃ b, d = .bl b ∧ if b = true then R (.bl true) W1 else Ev F T tb G W1 R) : Ev F T (tOrV ta tb) G W R := fun C H O σ w Q q =>
  h C H O σ w _ fun d W1 H1 O1 x ⟨b, e, s⟩ n k => by
    subst e
    have k : x = .bl b := k
    refine ⟨b, k, ?_⟩
    cases b with
    | true => exact q _ W1 H1 O1 _ s n rfl
    | false => exact s C H1 O1 σ (w.step n) _ fun d W2 H2 O2 v s2 n2 k2 => q d W2 H2 O2 v s2 (n.trans n2) k2
theorem ev_notV (h : Ev F T ta G W fun d W1 => ∃ b, d = .bl b ∧ R (.bl (!b)) W1) : Ev F T (tNotV ta) G W R := fun C H O σ w Q q =>
  h C H O σ w _ fun d W1 H1 O1 x ⟨b, e, s⟩ n k => by
    subst e
    have k : x = .bl b := k
    exact ⟨b, k, q _ W1 H1 O1 _ s n rfl⟩
theorem ev_if (h : EvT F T t G W fun b W1 => if b = true then Ev F T ta G W1 R else Ev F T tb G W1 R) : Ev F T (tIf t ta tb) G W R := fun C H O σ w Q q =>
  h C H O σ w _ fun b W1 H1 O1 s n => by
    cases b with
    | true => exact s C H1 O1 σ (w.step n) _ fun d W2 H2 O2 v s2 n2 k2 => q d W2 H2 O2 v s2 (n.trans n2) k2
    | false => exact s C H1 O1 σ (w.step n) _ fun d W2 H2 O2 v s2 n2 k2 => q d W2 H2 O2 v s2 (n.trans n2) k2
theorem op_sc {r : R2} {x y : V} (h : ∀ (H : Hp) (Q : VK), (∀ z, R (.vl z) W → Q z H) → r x y H Q) : Bo F T r (.vl x) (.vl y) W R := fun C H O dis oc own x' y' hx hy Q q => by
  have hx : x' = x := hx
  have hy : y' = y := hy
  subst hx hy
  exact h _ Q fun z rz => q (.vl z) W H O z rz (.refl dis oc own) rfl
theorem cl_sc {r : List V → Hp → VK → Prop} {xs : List V} (h : ∀ (H : Hp) (Q : VK), (∀ z, R (.vl z) W → Q z H) → r xs H Q) : Ca F T r (xs.map D.vl) W R := fun C H O dis oc own vs hv Q q => by
  have hv := DenL.vls_inv hv
  subst hv
  exact h _ Q fun z rz => q (.vl z) W H O z rz (.refl dis oc own) rfl
theorem sw_next (h : E.nx G W) : Sw F T tNext G W E := fun C H O σ w B b => b.nx G W H O σ h w.nx w.loc
theorem sw_brk (h : E.bk G W) : Sw F T tBreak G W E := fun C H O σ w B b => b.bk G W H O σ h w.nx w.loc
theorem sw_cont (h : E.ct G W) : Sw F T tCont G W E := fun C H O σ w B b => b.ct G W H O σ h w.nx w.loc
theorem sw_seq (h : Sw F T ts G W { E with nx := fun G' W' => Sw F T tz G' W' E }) : Sw F T (tSeq ts tz) G W E := fun C H O σ w B b =>
  h C H O σ w { B with nx := tz B } ⟨fun G' W' H' O' σ' a n l => a C H' O' σ' ⟨n.dis, n.oc, l, n.own⟩ B (b.up n.ext), b.rt, b.bk, b.ct⟩
theorem sw_drop (h : Ev F T te G W fun _ W' => E.nx G W') : Sw F T (tDrop te) G W E := fun C H O σ w B b =>
  h C H O σ w _ fun d W' H' O' v r n k => b.nx G W' H' O' σ r n (w.loc.mono n.ext)
theorem sw_ret (h : Ev F T te G W E.rt) : Sw F T (tRet te) G W E := fun C H O σ w B b =>
  h C H O σ w _ fun d W' H' O' v r n k => b.rt d W' H' O' v r n k
theorem sw_retN (h : E.rt .non W) : Sw F T tRetN G W E := fun C H O σ w B b => b.rt .non W H O .non h w.nx rfl
theorem sw_if (h : EvT F T t G W fun c W' => if c = true then Sw F T ts G W' E else Sw F T tz G W' E) : Sw F T (tIfS t ts tz) G W E := fun C H O σ w B b =>
  h C H O σ w _ fun c W' H' O' r n => by
    cases c with
    | true => exact r C H' O' σ (w.step n) B (b.up n.ext)
    | false => exact r C H' O' σ (w.step n) B (b.up n.ext)
theorem sw_set {i : Nat} (h : Ev F T te G W fun d W' => E.nx (G.set i (some d)) W') : Sw F T (tAsg te (gName i)) G W E := fun C H O σ w B b =>
  h C H O σ w _ fun d W' H' O' v r n k => b.nx _ W' H' O' _ r n ((w.loc.mono n.ext).set k)
theorem sw_par {i j : Nat} {ta : TA} (h : EvA F T ta G W fun ds W' => ∃ d1 d2, ds = [d1, d2] ∧ E.nx ((G.set i (some d1)).set j (some d2)) W') : Sw F T (tPar i j ta) G W E := fun C H O σ w B b =>
  h C H O σ w _ fun ds W' H' O' vs ⟨d1, d2, e, r⟩ n k => by
    subst e
    obtain ⟨v1, r1, e1, k1, v2, r2, e2, k2, e3⟩ := k
    have e3 : r2 = [] := e3
    subst e3 e2 e1
    exact ⟨v1, v2, rfl, b.nx _ W' H' O' _ r n (((w.loc.mono n.ext).set k1).set k2)⟩
theorem tg_name {i : Nat} {d : D} {Z : Gm → Prop} (h : Z (G.set i (some d))) : Tg F T (gName i) d G Z := fun H H1 σ v l _ k Q q => q _ _ h (l.set k)
theorem sw_for {wi : TI} {g : TG} (h : EvI F T wi G W fun ds W1 => ∃ I : Nat → Gm → Om → Prop, I 0 G W1 ∧
      (∀ i d G' W', ds[i]? = some d → I i G' W' → Tg F T g d G' fun G2 => Sw F T ts G2 W' { E with nx := I (i + 1), ct := I (i + 1), bk := E.nx }) ∧ (∀ G' W', I ds.length G' W' → E.nx G' W')) :
    Sw F T (tFor wi g ts) G W E := fun C H O σ w B b =>
  h C H O σ w _ fun J ds W1 H1 O1 ⟨I, i0, turn, fin⟩ n1 wk => by
    refine ⟨fun i m σ' X => m = ds.length - i ∧ i ≤ ds.length ∧ ∃ G' W' H' O', X = ov O' H' ∧ Nx F T C W' H1 H' O' ∧ Lo F T H' G' σ' ∧ I i G' W', ⟨ds.length, by simp, Nat.zero_le _, G, W1, H1, O1, rfl, ⟨Same.refl _, n1.dis, n1.oc, n1.own⟩, w.loc.mono n1.ext, i0⟩, ?_⟩
    rintro i m σ' X ⟨rfl, hi, G', W', H', O', rfl, n, l, ii⟩
    have k := wk i H' O' n.ext n.dis
    by_cases hlt : i < ds.length
    · obtain ⟨k1, k2⟩ := k.1 ds[i] (by simp [hlt])
      refine .inr ⟨k1, fun σ2 X2 => ∃ G2 W2 H2 O2, X2 = ov O2 H2 ∧ Nx F T C W2 H1 H2 O2 ∧ Lo F T H2 G2 σ2 ∧ I (i + 1) G2 W2, fun σ2 X2 ⟨G2, W2, H2, O2, e, n2, l2, i2⟩ => ⟨ds.length - (i + 1), by omega, rfl, hlt, G2, W2, H2, O2, e, n2, l2, i2⟩, fun x X2 y => ?_⟩
      obtain ⟨H2, s2, d2, rfl, kx⟩ := k2 x X2 y
      refine turn i ds[i] G' W' (by simp [hlt]) ii H2 _ σ' x (l.mono s2) d2.same kx _ fun G3 σ3 sw l3 => ?_
      refine sw C H2 O' σ3 ⟨d2, n.oc, l3, n.own.mono s2⟩ _ ⟨fun G4 W4 H4 O4 σ4 a n4 l4 => ⟨G4, W4, H4, O4, rfl, ⟨(n.ext.trans s2).trans n4.ext, n4.dis, n4.oc, n4.own⟩, l4, a⟩, ?_, ?_, fun G4 W4 H4 O4 σ4 a n4 l4 => ⟨G4, W4, H4, O4, rfl, ⟨(n.ext.trans s2).trans n4.ext, n4.dis, n4.oc, n4.own⟩, l4, a⟩⟩
      · exact fun d W4 H4 O4 v a n4 k4 => b.rt d W4 H4 O4 v a ⟨((n1.ext.trans n.ext).trans s2).trans n4.ext, n4.dis, n4.oc, n4.own⟩ k4
      · exact fun G4 W4 H4 O4 σ4 a n4 l4 => b.nx G4 W4 H4 O4 σ4 a ⟨((n1.ext.trans n.ext).trans s2).trans n4.ext, n4.dis, n4.oc, n4.own⟩ l4
    · have e : i = ds.length := by omega
      subst e
      exact .inl ⟨k.2 rfl, b.nx G' W' H' O' σ' (fin G' W' ii) ⟨n1.ext.trans n.ext, n.dis, n.oc, n.own⟩ l⟩
end
end N
set_option Elab.async false
set_option linter.all false
set_option maxRecDepth 100000
namespace N
open PySem L2
section
variable {F : FmKit} {T : Kx} {C H H' O O' : Hp} {G : Gm} {W W' : Om} {σ : St} {a p : Addr} {od : OD} {d : D} {l : List D}
theorem Ow.sub {W2 : Om} (o : Ow F T H C O W) (h : W2.Sublist W) : Ow F T H C O W2 := ⟨o.nd.sublist (h.map _), fun a od m => o.at_ a od (h.subset m)⟩
theorem Ow.perm {W2 : Om} (o : Ow F T H C O W) (h : W.Perm W2) : Ow F T H C O W2 := ⟨(h.map _).nodup_iff.mp o.nd, fun a od m => o.at_ a od (h.mem_iff.mpr m)⟩
theorem akeys_cons {x : Addr × OD} : akeys (x :: W) = x.1 :: akeys W := rfl
theorem mem_akeys {x : Addr × OD} (h : x ∈ W) : x.1 ∈ akeys W := List.mem_map.mpr ⟨x, h, rfl⟩
/-- a new owned cell -/
theorem Nx.newO {o : HO} (n : Nx F T C W H H' O') (hp : ov O' H' p = none) (h : OdAt F T H' (some o) od) : Nx F T C ((p, od) :: W) H H' (upd O' p o) ∧ upd (ov O' H') p o = ov (upd O' p o) H' ∧ p ∉ akeys W := by
  obtain ⟨h1, h2⟩ := ov_none hp
  have np := n.own.notin h1
  have cp : C p = none := by
    cases e : C p with
    | none => rfl
    | some x =>
      rw [n.oc p x e] at h1
      cases h1
  refine ⟨⟨n.ext, n.dis.updO h2, fun b x e => ?_, ⟨List.nodup_cons.mpr ⟨np, n.own.nd⟩, fun b ob m => ?_⟩⟩, ov_updO, np⟩
  · rw [upd_ne (ne_of_none e cp)]
    exact n.oc b x e
  · rcases List.mem_cons.mp m with e | m
    · obtain ⟨rfl, rfl⟩ := Prod.mk.inj e
      rw [upd_same]
      exact ⟨cp, h⟩
    · have : b ≠ p := fun q => np (q ▸ mem_akeys (x := (b, ob)) m)
      rw [upd_ne this]
      exact n.own.at_ b ob m
/-- a new frozen cell -/
theorem Nx.newF {o : HO} (n : Nx F T C W H H' O') (hp : ov O' H' p = none) : Nx F T C W H (upd H' p o) O' ∧ upd (ov O' H') p o = ov O' (upd H' p o) ∧ Same H' (upd H' p o) := by
  obtain ⟨h1, h2⟩ := ov_none hp
  have e := same_upd (o := o) h2
  exact ⟨⟨n.ext.trans e, n.dis.updH h1, n.oc, n.own.mono e⟩, ov_updH h1, e⟩
/-- an owned cell is written -/
theorem Nx.write {o : HO} {od2 : OD} {W1 W2 : Om} (n : Nx F T C (W1 ++ (p, od) :: W2) H H' O') (h : OdAt F T H' (some o) od2) : Nx F T C (W1 ++ (p, od2) :: W2) H H' (upd O' p o) ∧ upd (ov O' H') p o = ov (upd O' p o) H' := by
  have hm : (p, od) ∈ W1 ++ (p, od) :: W2 := by simp
  obtain ⟨cp, x⟩ := n.own.at_ p od hm
  obtain ⟨u, eu⟩ := x.some
  have nd := n.own.nd
  have ndk : (akeys (W1 ++ (p, od2) :: W2)) = akeys (W1 ++ (p, od) :: W2) := by simp [akeys]
  refine ⟨⟨n.ext, n.dis.updO (n.dis p u eu), fun b x e => ?_, ⟨by rw [ndk]; exact nd, fun b ob m => ?_⟩⟩, ov_updO⟩
  · rw [upd_ne (ne_of_none e cp)]
    exact n.oc b x e
  · by_cases q : b = p
    · subst q
      have : ob = od2 := by
        have nd2 : (akeys (W1 ++ (b, od2) :: W2)).Nodup := by rw [ndk]; exact nd
        have hu : ∀ (W : Om) (x y : OD), (akeys W).Nodup → (b, x) ∈ W → (b, y) ∈ W → x = y := by
          intro W
          induction W with
          | nil => intro x y _ h; simp at h
          | cons z W ih =>
            intro x y hn hx hy
            rw [akeys_cons, List.nodup_cons] at hn
            rcases List.mem_cons.mp hx with ex | hx
            · rcases List.mem_cons.mp hy with ey | hy
              · rw [← ex] at ey
                exact (Prod.mk.inj ey).2.symm
              · exact absurd (by rw [← ex]; exact mem_akeys (x := (b, y)) hy) hn.1
            · rcases List.mem_cons.mp hy with ey | hy
              · exact absurd (by rw [← ey]; exact mem_akeys (x := (b, x)) hx) hn.1
              · exact ih x y hn.2 hx hy
        exact hu _ ob od2 nd2 m (by simp)
      subst this
      rw [upd_same]
      exact ⟨cp, h⟩
    · rw [upd_ne q]
      refine n.own.at_ b ob ?_
      rcases List.mem_append.mp m with m | m
      · exact List.mem_append_left _ m
      · rcases List.mem_cons.mp m with e | m
        · exact absurd (Prod.mk.inj e).1 q
        · exact List.mem_append_right _ (List.mem_cons_of_mem _ m)
def partsD : Fm → List D
  | .at c => [.str ⟨#[c]⟩]
  | .no => []
  | .imp a b => [.fm a, .fm b]
  | .all a => [.fm a]
def AllsD (a : Addr) (f : Fm) : List D → List Fm → Prop
  | [], fs => fs = []
  | d :: ds, fs => ∃ g r, fs = g :: r ∧ (d = .fm g ∨ (d = .adr a ∧ g = f)) ∧ AllsD a f ds r
inductive Fzd (F : FmKit) (a : Addr) : OD → D → Prop
  | lst (l : List D) : Fzd F a (.lst l) (.lst l)
  | dct (ks : List Key) (l : List D) : Fzd F a (.dct ks l) (.dct ks l)
  | obj (c : Nat) (ns : List Str) (l : List D) : Fzd F a (.ins c ns l) (.obj c ns l)
  | fm (f : Fm) (al : List D) : AllsD a f al (F.alls f) → Fzd F a (.ins 0 fmNames [.str (F.kind f), .tup (partsD f), .int (F.many f), .int (F.deep f), .str (F.atoms f), .str (F.bare f), .str (F.spell f), .tup al]) (.fm f)
theorem parts_of {R : Addr → Fm → Prop} (hR : ∀ b g, FormAt F T H b g → R b g) : ∀ {f : Fm} {xs : List V}, DenL F T H (partsD f) xs → PartsR R f xs
  | .at c, xs, h => DenL.vls_inv (ws := [.str ⟨#[c]⟩]) h
  | .no, xs, h => h
  | .imp a b, xs, ⟨v, r, e, ⟨p, e1, h1⟩, u, s, e2, ⟨q, e3, h3⟩, e4⟩ => by
    have e4 : s = [] := e4
    subst e e1 e2 e3 e4
    exact ⟨p, q, rfl, hR _ _ h1, hR _ _ h3⟩
  | .all a, xs, ⟨v, r, e, ⟨p, e1, h1⟩, e2⟩ => by
    have e2 : r = [] := e2
    subst e e1 e2
    exact ⟨p, rfl, hR _ _ h1⟩
theorem alls_of {R : Addr → Fm → Prop} {f : Fm} (hR : ∀ b g, FormAt F T H b g → R b g) (ha : R a f) : ∀ {al : List D} {xs : List V} {fs : List Fm}, AllsD a f al fs → DenL F T H al xs → ∃ as : List Addr, xs = as.map V.ref ∧ AllR R as fs
  | [], xs, fs, h, k => ⟨[], k, h⟩
  | d :: ds, xs, fs, ⟨g, r, e, hd, ht⟩, ⟨v, rv, e1, k1, k2⟩ => by
    obtain ⟨as, e2, h2⟩ := alls_of hR ha ht k2
    subst e e1 e2
    rcases hd with hd | ⟨hd, hg⟩
    · subst hd
      obtain ⟨b, e3, h3⟩ := k1
      subst e3
      exact ⟨b :: as, rfl, g, r, rfl, hR _ _ h3, h2⟩
    · subst hd hg
      have k1 : v = .ref a := k1
      subst k1
      exact ⟨a :: as, rfl, g, r, rfl, ha, h2⟩
theorem lcons {α : Type} {n : α} {ns : List α} : ∀ {fs : List (α × V)}, fs.map (·.1) = n :: ns → ∃ v r, fs = (n, v) :: r ∧ r.map (·.1) = ns
  | [], h => by simp at h
  | (m, v) :: r, h => by
    rw [List.map_cons] at h
    injection h with h1 h2
    exact ⟨v, r, by rw [← h1], h2⟩
theorem Fzd.den (z : Fzd F a od d) (h : OdAt F T H (O a) od) (hn : H a = none) : ∃ o, O a = some o ∧ Den F T (upd H a o) d (.ref a) := by
  cases z with
  | lst l =>
    obtain ⟨xs, e, k⟩ := h
    exact ⟨_, e, a, xs, rfl, upd_same, k.mono (same_upd hn)⟩
  | dct ks l =>
    obtain ⟨kvs, e, h1, h2, k⟩ := h
    exact ⟨_, e, a, kvs, rfl, upd_same, h1, h2, k.mono (same_upd hn)⟩
  | obj c ns l =>
    obtain ⟨dx, fs, e, h1, k⟩ := h
    exact ⟨_, e, a, dx, fs, rfl, upd_same, h1, k.mono (same_upd hn)⟩
  | fm f al hal =>
    obtain ⟨dx, fs, e, h1, k⟩ := h
    refine ⟨_, e, a, rfl, ?_⟩
    obtain ⟨v1, r1, g1, w1⟩ := lcons h1
    subst g1
    obtain ⟨v2, r2, g2, w2⟩ := lcons w1
    subst g2
    obtain ⟨v3, r3, g3, w3⟩ := lcons w2
    subst g3
    obtain ⟨v4, r4, g4, w4⟩ := lcons w3
    subst g4
    obtain ⟨v5, r5, g5, w5⟩ := lcons w4
    subst g5
    obtain ⟨v6, r6, g6, w6⟩ := lcons w5
    subst g6
    obtain ⟨v7, r7, g7, w7⟩ := lcons w6
    subst g7
    obtain ⟨v8, r8, g8, w8⟩ := lcons w7
    subst g8
    have w9 : r8 = [] := List.map_eq_nil_iff.mp w8
    subst w9
    have k := k.mono (same_upd (o := .ins (T.cl 0) dx [("kind", v1), ("parts", v2), ("many", v3), ("deepest", v4), ("atoms", v5), ("bare", v6), ("spelled", v7), ("alls_known", v8)]) hn)
    obtain ⟨_, _, q1, k1, _, _, q2, k2, _, _, q3, k3, _, _, q4, k4, _, _, q5, k5, _, _, q6, k6, _, _, q7, k7, _, _, q8, k8, _⟩ := k
    simp only [List.map_cons, List.map_nil, List.cons.injEq] at q1 q2 q3 q4 q5 q6 q7 q8
    obtain ⟨rfl, rfl⟩ := q1
    obtain ⟨rfl, rfl⟩ := q2
    obtain ⟨rfl, rfl⟩ := q3
    obtain ⟨rfl, rfl⟩ := q4
    obtain ⟨rfl, rfl⟩ := q5
    obtain ⟨rfl, rfl⟩ := q6
    obtain ⟨rfl, rfl⟩ := q7
    obtain ⟨rfl, rfl⟩ := q8
    have k1 : v1 = .str (F.kind f) := k1
    obtain ⟨pa, ps, ep, hp, kp⟩ := k2
    have k3 : v3 = .int (F.many f) := k3
    have k4 : v4 = .int (F.deep f) := k4
    have k5 : v5 = .str (F.atoms f) := k5
    have k6 : v6 = .str (F.bare f) := k6
    have k7 : v7 = .str (F.spell f) := k7
    obtain ⟨aa, as, ea, ha, ka⟩ := k8
    subst k1 ep k3 k4 k5 k6 k7 ea
    obtain ⟨bs, eb, hb⟩ := alls_of (R := fun b g => FormAt F T (upd H a (.ins (T.cl 0) dx (fmFields F f pa aa))) b g ∨ (b = a ∧ g = f)) (fun b g x => .inl x) (.inr ⟨rfl, rfl⟩) hal ka
    subst eb
    exact FormAt.mk ⟨dx, pa, ps, aa, bs, upd_same, hp, parts_of (fun b g x => .inl x) kp, ha, hb⟩
/-- what may be taken in the place of d -/
def Fz (F : FmKit) (R : D → Om → Prop) : D → Om → Prop := fun d W => ∃ a od W2 d', d = .adr a ∧ W.Perm ((a, od) :: W2) ∧ Fzd F a od d' ∧ R d' W2
theorem Nx.freeze {W2 : Om} {d' : D} (n : Nx F T C W H H' O') (hp : W.Perm ((a, od) :: W2)) (z : Fzd F a od d') : ∃ o, O' a = some o ∧ Nx F T C W2 H (upd H' a o) (del O' a) ∧ ov O' H' = ov (del O' a) (upd H' a o) ∧ Den F T (upd H' a o) d' (.ref a) ∧ Same H' (upd H' a o) := by
  have ow := n.own.perm hp
  obtain ⟨ca, oa⟩ := ow.at_ a od (by simp)
  obtain ⟨u, eu⟩ := oa.some
  have hn : H' a = none := n.dis a u eu
  obtain ⟨o, eo, k⟩ := z.den (O := O') oa hn
  have e := same_upd (o := o) hn
  have nd := ow.nd
  rw [akeys_cons, List.nodup_cons] at nd
  refine ⟨o, eo, ⟨n.ext.trans e, n.dis.freeze, fun b x q => ?_, ⟨nd.2, fun b ob m => ?_⟩⟩, ov_freeze eo, k, e⟩
  · rw [del_ne (ne_of_none q ca)]
    exact n.oc b x q
  · have hb : b ≠ a := fun q => nd.1 (q ▸ mem_akeys (x := (b, ob)) m)
    rw [del_ne hb]
    obtain ⟨h1, h2⟩ := ow.at_ b ob (List.mem_cons_of_mem _ m)
    exact ⟨h1, h2.mono e⟩
end
section
variable {F : FmKit} {T : Kx} {C H H' O O' : Hp} {G : Gm} {W W' : Om} {σ : St} {a p : Addr} {od : OD} {d : D} {l : List D}
  {te ta tb : TE} {t u : TT} {R R' : D → Om → Prop} {S S' : Bool → Om → Prop} {tr : TA} {ts tz : TS} {E E' : En}
theorem ev_fz (h : Ev F T te G W (Fz F R)) : Ev F T te G W R := fun C H O σ w Q q => h C H O σ w Q fun d W' H' O' v ⟨a, od, W2, d', e, hp, z, r⟩ n k => by
  subst e
  have k : v = .ref a := k
  subst k
  obtain ⟨o, _, n2, eo, k2, _⟩ := n.freeze hp z
  rw [eo]
  exact q d' W2 _ _ _ r n2 k2
theorem ca_fz {r : List V → Hp → VK → Prop} {ds : List D} (h : Ca F T r ds W (Fz F R)) : Ca F T r ds W R := fun C H O di oc ow xs hx Q q => h C H O di oc ow xs hx Q fun d W' H' O' v ⟨a, od, W2, d', e, hp, z, r⟩ n k => by
  subst e
  have k : v = .ref a := k
  subst k
  obtain ⟨o, _, n2, eo, k2, _⟩ := n.freeze hp z
  rw [eo]
  exact q d' W2 _ _ _ r n2 k2
theorem sw_drp {W2 : Om} (hs : W2.Sublist W) (h : Sw F T ts G W2 E) : Sw F T ts G W E := fun C H O σ w B b => h C H O σ ⟨w.dis, w.oc, w.loc, w.own.sub hs⟩ B b
theorem ev_tup (h : EvA F T tr G W fun ds W1 => ds.length ≤ sizeLine ∧ R (.tup ds) W1) : Ev F T (tTup tr) G W R := fun C H O σ w Q q =>
  h C H O σ w _ fun ds W1 H1 O1 vs ⟨hl, r⟩ n k => ⟨by rw [k.len]; exact hl, fun p hp => by
    obtain ⟨n2, e, s⟩ := n.newF (o := .tup vs) hp
    rw [e]
    exact q (.tup ds) W1 _ _ _ r n2 ⟨p, vs, rfl, SqT.of upd_same, k.mono s⟩⟩
/-- .. frozen at once -/
theorem ev_lstF (h : EvA F T tr G W fun ds W1 => ds.length ≤ sizeLine ∧ R (.lst ds) W1) : Ev F T (tLst tr) G W R := fun C H O σ w Q q =>
  h C H O σ w _ fun ds W1 H1 O1 vs ⟨hl, r⟩ n k => ⟨by rw [k.len]; exact hl, fun p hp => by
    obtain ⟨n2, e, s⟩ := n.newF (o := .lst vs) hp
    rw [e]
    exact q (.lst ds) W1 _ _ _ r n2 ⟨p, vs, rfl, upd_same, k.mono s⟩⟩
/-- d is a list of l: frozen, or owned -/
def Vl (W : Om) (d : D) (l : List D) : Prop := (d = .lst l ∨ ∃ vs, d = .scr vs ∧ l = vs.map .vl) ∨ ∃ a, d = .adr a ∧ (a, .lst l) ∈ W
def Vs (W : Om) (d : D) (l : List D) : Prop := Vl W d l ∨ d = .tup l
theorem Vl.sq {x : V} (o : Ow F T H C O W) (di : Dis O H) (h : Vl W d l) (k : Den F T H d x) : ∃ a xs, x = .ref a ∧ SqL T.K (ov O H) a xs ∧ DenL F T H l xs := by
  rcases h with (rfl | ⟨vs, rfl, rfl⟩) | ⟨a, rfl, m⟩
  · obtain ⟨a, xs, e, hs, kl⟩ := k
    exact ⟨a, xs, e, SqL.of (di.same _ _ hs), kl⟩
  · obtain ⟨a, e, hs⟩ := k
    exact ⟨a, vs, e, di.same.seq hs, .vls vs⟩
  · obtain ⟨_, xs, e, kl⟩ := o.at_ a _ m
    exact ⟨a, xs, k, SqL.of (ov_own e), kl⟩
/-- a list that the program has made -/
def Vt (W : Om) (d : D) (l : List D) : Prop := d = .lst l ∨ ∃ a, d = .adr a ∧ (a, .lst l) ∈ W
theorem Vt.vl (h : Vt W d l) : Vl W d l := h.elim (fun h => .inl (.inl h)) .inr
theorem Vt.at {x : V} (o : Ow F T H C O W) (di : Dis O H) (h : Vt W d l) (k : Den F T H d x) : ∃ a xs, x = .ref a ∧ ov O H a = some (.lst xs) ∧ DenL F T H l xs := by
  rcases h with rfl | ⟨a, rfl, m⟩
  · obtain ⟨a, xs, e, hs, kl⟩ := k
    exact ⟨a, xs, e, di.same _ _ hs, kl⟩
  · obtain ⟨_, xs, e, kl⟩ := o.at_ a _ m
    exact ⟨a, xs, k, ov_own e, kl⟩
theorem Vs.sq {x : V} (o : Ow F T H C O W) (di : Dis O H) (h : Vs W d l) (k : Den F T H d x) : ∃ a xs, x = .ref a ∧ (SqL T.K (ov O H) a xs ∨ SqT T.K (ov O H) a xs) ∧ DenL F T H l xs := by
  rcases h with h | rfl
  · obtain ⟨a, xs, e, hs, kl⟩ := h.sq o di k
    exact ⟨a, xs, e, .inl hs, kl⟩
  · obtain ⟨a, xs, e, hs, kl⟩ := k
    exact ⟨a, xs, e, .inr (Same.sqT di.same hs), kl⟩
theorem ca_one {r : List V → Hp → VK → Prop} {d : D} (h : ∀ (C H O : Hp), Dis O H → Same C O → Ow F T H C O W → ∀ x, Den F T H d x → ∀ Q : VK, (∀ d W' H' O' v, R d W' → Nx F T C W' H H' O' → Den F T H' d v → Q v (ov O' H')) → r [x] (ov O H) Q) : Ca F T r [d] W R := fun C H O di oc ow vs k Q q => by
  obtain ⟨v, r', e, k1, e2⟩ := k
  have e2 : r' = [] := e2
  subst e e2
  exact h C H O di oc ow v k1 Q q
theorem ca_two {r : List V → Hp → VK → Prop} {d e : D} (h : ∀ (C H O : Hp), Dis O H → Same C O → Ow F T H C O W → ∀ x y, Den F T H d x → Den F T H e y → ∀ Q : VK, (∀ d W' H' O' v, R d W' → Nx F T C W' H H' O' → Den F T H' d v → Q v (ov O' H')) → r [x, y] (ov O H) Q) : Ca F T r [d, e] W R := fun C H O di oc ow vs k Q q => by
  obtain ⟨v, r', e1, k1, u, r2, e2, k2, e3⟩ := k
  have e3 : r2 = [] := e3
  subst e3 e2 e1
  exact h C H O di oc ow v u k1 k2 Q q
/-- len of a list or a tuple -/
theorem ca_len (hv : Vs W d l) (r : R (.int l.length) W) : Ca F T (fun xs H Q => ∃ x n, xs = [x] ∧ LenV T.K x H n ∧ Q (.int (n : Nat)) H) [d] W R := ca_one fun C H O di oc ow x k Q q => by
  obtain ⟨a, xs, e, hs, kl⟩ := hv.sq ow di k
  subst e
  refine ⟨_, xs.length, rfl, ?_, ?_⟩
  · exact hs.elim (fun h => .inl ⟨xs, h, rfl⟩) fun h => .inr ⟨xs, h, rfl⟩
  · rw [kl.len]
    exact q (.int l.length) W H O _ r (.refl di oc ow) rfl
theorem ca_lenS {s : Str} (hl : s.length ≤ sizeLine) (r : R (.int s.length) W) : Ca F T (fun xs H Q => ∃ x n, xs = [x] ∧ LenV T.K x H n ∧ Q (.int (n : Nat)) H) [.str s] W R := ca_one fun C H O di oc ow x k Q q => by
  have k : x = .str s := k
  subst k
  exact ⟨_, s.length, rfl, ⟨hl, rfl⟩, q (.int s.length) W H O _ r (.refl di oc ow) rfl⟩
/-- tuple(list) -/
theorem ca_tup (hv : Vl W d l) (r : R (.tup l) W) : Ca F T (fun xs H Q => ∃ p ys, xs = [.ref p] ∧ ((SqL T.K H p ys ∧ ∀ q, H q = none → Q (.ref q) (upd H q (.tup ys))) ∨ (SqT T.K H p ys ∧ Q (.ref p) H))) [d] W R := ca_one fun C H O di oc ow x k Q q => by
  obtain ⟨a, xs, e, hs, kl⟩ := hv.sq ow di k
  subst e
  refine ⟨a, xs, rfl, .inl ⟨hs, fun p hp => ?_⟩⟩
  obtain ⟨n2, e, s⟩ := (Nx.refl di oc ow).newF (o := .tup xs) hp
  rw [e]
  exact q (.tup l) W _ _ _ r n2 ⟨p, xs, rfl, SqT.of upd_same, kl.mono s⟩
theorem atI_len {α β : Type} {xs : List α} {ys : List β} {i : Int} {y : β} (hl : xs.length = ys.length) (h : atI ys i = some y) : ∃ j : Nat, ys[j]? = some y ∧ ∀ x, xs[j]? = some x → atI xs i = some x := by
  unfold atI at h ⊢
  rw [hl]
  cases e : ixN ys.length i with
  | none =>
    rw [e] at h
    cases h
  | some j =>
    rw [e] at h
    exact ⟨j, h, fun x hx => hx⟩
theorem DenL.atI {l : List D} {xs : List V} {i : Int} {d : D} (k : DenL F T H l xs) (h : atI l i = some d) : ∃ v, L2.atI xs i = some v ∧ Den F T H d v := by
  obtain ⟨j, hj, f⟩ := atI_len (xs := xs) k.len h
  obtain ⟨v, hv, kv⟩ := k.get hj
  exact ⟨v, f v hv, kv⟩
theorem bo_ixL {i : Int} {z : D} (hv : Vl W d l) (hi : atI l i = some z) (r : R z W) : Bo F T (rIxL T.K) d (.int i) W R := fun C H O di oc ow x y hx hy Q q => by
  obtain ⟨a, xs, e, hs, kl⟩ := hv.sq ow di hx
  have hy : y = .int i := hy
  obtain ⟨v, ev, kv⟩ := kl.atI hi
  subst e hy
  exact ⟨a, xs, i, v, rfl, rfl, hs, ev, q z W H O v r (.refl di oc ow) kv⟩
theorem bo_ixT {i : Int} {z : D} (hi : atI l i = some z) (r : R z W) : Bo F T (rIxT T.K) (.tup l) (.int i) W R := fun C H O di oc ow x y hx hy Q q => by
  obtain ⟨a, xs, e, hs, kl⟩ := hx
  have hy : y = .int i := hy
  obtain ⟨v, ev, kv⟩ := kl.atI hi
  subst e hy
  exact ⟨a, xs, i, v, rfl, rfl, Same.sqT di.same hs, ev, q z W H O v r (.refl di oc ow) kv⟩
theorem ev_bm {Ty : String} {r : V → List V → Hp → VK → Prop} {to : TE}
    (h : Ev F T to G W fun d W1 => (∀ (C H O : Hp), Dis O H → Same C O → Ow F T H C O W1 → ∀ x, Den F T H d x → tyV T.K Ty x (ov O H)) ∧ EvA F T tr G W1 fun ds W2 =>
      ∀ (C H O : Hp), Dis O H → Same C O → Ow F T H C O W2 → ∀ x vs, Den F T H d x → DenL F T H ds vs → ∀ Q : VK, (∀ d W' H' O' v, R d W' → Nx F T C W' H H' O' → Den F T H' d v → Q v (ov O' H')) → r x vs (ov O H) Q) : Ev F T (tBM T.K Ty r to tr) G W R := fun C H O σ w Q q =>
  h C H O σ w _ fun d W1 H1 O1 x ⟨ht, ha⟩ n1 k1 => ⟨ht C H1 O1 n1.dis n1.oc n1.own x k1, ha C H1 O1 σ (w.step n1) _ fun ds W2 H2 O2 vs r2 n2 k2 =>
    r2 C H2 O2 n2.dis n2.oc n2.own x vs (k1.mono n2.ext) k2 Q fun d W' H' O' v rr n k => q d W' H' O' v rr ((n1.trans n2).trans n) k⟩
theorem ev_bm0 {Ty : String} {r : V → List V → Hp → VK → Prop} {to : TE}
    (h : Ev F T to G W fun d W1 => ∀ (C H O : Hp), Dis O H → Same C O → Ow F T H C O W1 → ∀ x, Den F T H d x → tyV T.K Ty x (ov O H) ∧
      ∀ Q : VK, (∀ d W' H' O' v, R d W' → Nx F T C W' H H' O' → Den F T H' d v → Q v (ov O' H')) → r x [] (ov O H) Q) : Ev F T (tBM0 T.K Ty r to) G W R := fun C H O σ w Q q =>
  h C H O σ w _ fun d W1 H1 O1 x r1 n1 k1 => let ⟨ht, r2⟩ := r1 C H1 O1 n1.dis n1.oc n1.own x k1
    ⟨ht, r2 Q fun d W' H' O' v rr n k => q d W' H' O' v rr (n1.trans n) k⟩
theorem own_lst {W1 W2 : Om} (ow : Ow F T H C O (W1 ++ (a, .lst l) :: W2)) : ∃ xs, O a = some (.lst xs) ∧ DenL F T H l xs := (ow.at_ a (.lst l) (by simp)).2
/-- l.append(e) -/
theorem ev_append {to : TE} (h : Ev F T to G W fun d W0 => ∃ a l0 W01 W02, d = .adr a ∧ W0 = W01 ++ (a, .lst l0) :: W02 ∧ EvA F T tr G W0 fun ds W' => ∃ l W1 W2 z, W' = W1 ++ (a, .lst l) :: W2 ∧ ds = [z] ∧ l.length < sizeLine ∧ R .non (W1 ++ (a, .lst (l ++ [z])) :: W2)) :
    Ev F T (tBM T.K "list" rAppend to tr) G W R := ev_bm (h.imp fun d W0 ⟨a, l0, W01, W02, e1, e2, ha⟩ => by
  subst e1
  refine ⟨fun C H O di oc ow x kx => ?_, ?_⟩
  · have kx : x = .ref a := kx
    subst kx e2
    obtain ⟨xs, e, _⟩ := own_lst ow
    exact .inl ⟨rfl, xs, SqL.of (ov_own e)⟩
  · refine fun C H O σ w Q q => ha C H O σ w Q fun ds W' H' O' vs ⟨l, W1, W2, z, e3, e4, hl, r⟩ n k => q ds W' H' O' vs ?_ n k
    subst e3 e4
    intro C H O di oc ow x vs kx kv Q q
    have kx : x = .ref a := kx
    obtain ⟨v, r', ev, k1, er⟩ := kv
    have er : r' = [] := er
    subst kx ev er
    obtain ⟨xs, e, kl⟩ := own_lst ow
    refine ⟨a, xs, v, rfl, rfl, ov_own e, by rw [kl.len]; exact hl, ?_⟩
    obtain ⟨n2, e2⟩ := (Nx.refl di oc ow).write (o := .lst (xs ++ [v])) (od2 := .lst (l ++ [z])) ⟨_, rfl, kl.app (.one k1)⟩
    rw [e2]
    exact q .non _ _ _ _ r n2 rfl)
/-- l.pop() -/
theorem ev_pop {to : TE} (h : Ev F T to G W fun d W0 => ∃ a l W1 W2 z, d = .adr a ∧ W0 = W1 ++ (a, .lst (l ++ [z])) :: W2 ∧ R z (W1 ++ (a, .lst l) :: W2)) : Ev F T (tBM0 T.K "list" rPop to) G W R :=
  ev_bm0 (h.imp fun d W0 ⟨a, l, W1, W2, z, e1, e2, r⟩ => by
    subst e1 e2
    intro C H O di oc ow x kx
    have kx : x = .ref a := kx
    subst kx
    obtain ⟨xs, e, kl⟩ := own_lst ow
    refine ⟨.inl ⟨rfl, xs, SqL.of (ov_own e)⟩, fun Q q => ?_⟩
    obtain ⟨us, ws, e3, k1, k2⟩ := kl.app_inv
    obtain ⟨v, r', ev, kv, er⟩ := k2
    have er : r' = [] := er
    subst er ev e3
    refine ⟨a, _, v, rfl, rfl, ov_own e, by simp, ?_⟩
    rw [List.dropLast_concat]
    obtain ⟨n2, e2⟩ := (Nx.refl di oc ow).write (o := .lst us) (od2 := .lst l) ⟨_, rfl, k1⟩
    rw [e2]
    exact q z _ _ _ _ r n2 kv)
/-- l[i] = e -/
theorem sw_setL {to ti : TE} (h : Ev F T te G W fun z W1 => Ev F T to G W1 fun d W2 => Ev F T ti G W2 fun i W3 => ∃ a l j k Wa Wb, d = .adr a ∧ i = .int k ∧ W3 = Wa ++ (a, .lst l) :: Wb ∧ ixN l.length k = some j ∧ E.nx G (Wa ++ (a, .lst (l.set j z)) :: Wb)) :
    Sw F T (tAsg te (gSub to ti rSetL)) G W E := fun C H O σ w B b =>
  h C H O σ w _ fun z W1 H1 O1 v h1 n1 k1 => h1 C H1 O1 σ (w.step n1) _ fun d W2 H2 O2 x h2 n2 k2 => h2 C H2 O2 σ ((w.step n1).step n2) _ fun i W3 H3 O3 y ⟨a, l, j, k, Wa, Wb, e1, e2, e3, hj, r⟩ n3 k3 => by
    subst e1 e2 e3
    have k2 : x = .ref a := k2
    have k3 : y = .int k := k3
    subst k2 k3
    obtain ⟨xs, e, kl⟩ := own_lst n3.own
    refine ⟨a, xs, k, j, rfl, rfl, ov_own e, by rw [kl.len]; exact hj, ?_⟩
    have nn := (n1.trans n2).trans n3
    obtain ⟨n4, e4⟩ := nn.write (o := .lst (xs.set j v)) (od2 := .lst (l.set j z)) ⟨_, rfl, kl.set ((k1.mono n2.ext).mono n3.ext)⟩
    rw [e4]
    exact b.nx _ _ _ _ _ r n4 (w.loc.mono nn.ext)
theorem ei_list {tl : TE} {Z : List D → Om → Prop} (h : Ev F T tl G W fun d W1 => ∃ l, d = .lst l ∧ Z l W1) : EvI F T (iList T.K tl) G W Z := fun C H O σ w Q q =>
  h C H O σ w _ fun d W1 H1 O1 x ⟨l, e, z⟩ n k => by
    subst e
    obtain ⟨a, xs, ea, hs, kl⟩ := k
    subst ea
    have hs : SqL T.K H1 a xs := SqL.of hs
    refine ⟨a, rfl, ⟨xs, n.dis.same.seq hs⟩, q _ l W1 H1 O1 z n fun i H2 O2 s di => ⟨fun d hd => ?_, fun e => ⟨xs, di.same.seq (s.seq hs), by rw [kl.len, e]; exact Nat.le_refl _⟩⟩⟩
    obtain ⟨v, hv, kv⟩ := kl.get hd
    have hq : SqL T.K (ov O2 H2) a xs := di.same.seq (s.seq hs)
    refine ⟨⟨xs, v, hq, hv⟩, fun x X ⟨e, y⟩ => ⟨H2, Same.refl _, di, e, ?_⟩⟩
    have := y xs hq
    rw [hv] at this
    cases this
    exact kv.mono s
theorem ei_tup {tl : TE} {Z : List D → Om → Prop} (h : Ev F T tl G W fun d W1 => ∃ l, d = .tup l ∧ Z l W1) : EvI F T (iTup T.K tl) G W Z := fun C H O σ w Q q =>
  h C H O σ w _ fun d W1 H1 O1 x ⟨l, e, z⟩ n k => by
    subst e
    obtain ⟨a, xs, ea, hs, kl⟩ := k
    subst ea
    refine ⟨a, rfl, ⟨xs, Same.sqT n.dis.same hs⟩, q _ l W1 H1 O1 z n fun i H2 O2 s di => ⟨fun d hd => ?_, fun e => ⟨xs, Same.sqT di.same (Same.sqT s hs), by rw [kl.len, e]; exact Nat.le_refl _⟩⟩⟩
    obtain ⟨v, hv, kv⟩ := kl.get hd
    have hq : SqT T.K (ov O2 H2) a xs := Same.sqT di.same (Same.sqT s hs)
    refine ⟨⟨xs, v, hq, hv⟩, fun x X ⟨e, y⟩ => ⟨H2, Same.refl _, di, e, ?_⟩⟩
    have := y xs hq
    rw [hv] at this
    cases this
    exact kv.mono s
def rng (lo : Int) (n : Nat) : List D := (List.range n).map fun k => .int (lo + (k : Nat))
theorem rng_len (lo : Int) (n : Nat) : (rng lo n).length = n := by simp [rng]
theorem rng_get {lo : Int} {n i : Nat} {d : D} (h : (rng lo n)[i]? = some d) : i < n ∧ d = .int (lo + (i : Nat)) := by
  have hi : i < (rng lo n).length := (List.getElem?_eq_some_iff.mp h).1
  rw [rng_len] at hi
  refine ⟨hi, ?_⟩
  unfold rng at h
  rw [List.getElem?_map, List.getElem?_range hi] at h
  exact (Option.some.inj h).symm
theorem wk_rng {lo : Int} {n : Nat} : Wk F T (Itr lo n) H (rng lo n) := fun i H2 O2 s di => ⟨fun d hd => by
  obtain ⟨hi, e⟩ := rng_get hd
  subst e
  exact ⟨hi, fun x X ⟨e1, e2⟩ => ⟨H2, Same.refl _, di, e1, e2⟩⟩, fun e => by
  rw [rng_len] at e
  show n ≤ i
  omega⟩
theorem ei_rng1 {Z : List D → Om → Prop} (h : EvA F T tr G W fun ds W1 => ∃ j : Int, ds = [.int j] ∧ -(2 ^ 62) ≤ j ∧ j < 2 ^ 62 ∧ Z (rng 0 j.toNat) W1) : EvI F T (iRng1 tr) G W Z := fun C H O σ w Q q =>
  h C H O σ w _ fun ds W1 H1 O1 vs ⟨j, e, h1, h2, z⟩ n k => by
    subst e
    have k := DenL.vls_inv (ws := [.int j]) k
    subst k
    exact ⟨j, rfl, h1, h2, q _ _ W1 H1 O1 z n wk_rng⟩
end
end N
set_option Elab.async false
set_option linter.all false
set_option maxRecDepth 100000
namespace N
open PySem L2
/-- a promise: data of the arguments, owned cells handed in, what is wanted behind -/
abbrev FS := List D → Om → (D → Om → Prop) → Prop
section
variable (F : FmKit) (T : Kx)
def spN (S : FS) : Sp := fun vs X Q _ => ∃ (ds : List D) (W : Om) (C H O : Hp) (post : D → Om → Prop), X = ov O H ∧ Dis O H ∧ Same C O ∧ Ow F T H C O W ∧ DenL F T H ds vs ∧ S ds W post ∧
  ∀ d W' H' O' v, post d W' → Nx F T C W' H H' O' → Den F T H' d v → Q v (ov O' H')
end
section
variable {F : FmKit} {T : Kx} {C H H' O O' : Hp} {G : Gm} {W W' : Om} {σ : St} {a p : Addr} {od : OD} {d : D} {l : List D}
  {te ta tb : TE} {t u : TT} {R R' : D → Om → Prop} {Z : Bool → Om → Prop} {tr tk : TA} {ts tz : TS} {E : XK} {En1 : En} {S : FS}
/-- a part of what is owned is handed in, the rest stands behind -/
theorem run_sp {ds : List D} {vs : List V} {Wc Wf : Om} {Q : VK} (di : Dis O H) (oc : Same C O) (ow : Ow F T H C O (Wc ++ Wf)) (k : DenL F T H ds vs) (h : S ds Wc fun d W' => R d (W' ++ Wf))
    (q : ∀ d W' H' O' v, R d W' → Nx F T C W' H H' O' → Den F T H' d v → Q v (ov O' H')) : spN F T S vs (ov O H) Q E := by
  have nd := ow.nd
  have nd2 : (akeys Wc ++ akeys Wf).Nodup := by
    have e : akeys (Wc ++ Wf) = akeys Wc ++ akeys Wf := by simp [akeys]
    rw [← e]
    exact nd
  rw [List.nodup_append] at nd2
  obtain ⟨ndc, ndf, dj⟩ := nd2
  have inF : ∀ b, b ∈ akeys Wf → ∃ od, (b, od) ∈ Wf := fun b hb => by
    obtain ⟨x, hx, e⟩ := List.mem_map.mp hb
    exact ⟨x.2, by rw [← e]; exact hx⟩
  have atF : ∀ b od, (b, od) ∈ Wf → C b = none ∧ OdAt F T H (O b) od := fun b od m => ow.at_ b od (List.mem_append_right _ m)
  refine ⟨ds, Wc, fun b => if b ∈ akeys Wf then O b else C b, H, O, _, rfl, di, fun b o e => ?_, ⟨ndc, fun a od m => ?_⟩, k, h, fun d W' H' O' v r n kd => q d (W' ++ Wf) H' O' v r ⟨n.ext, n.dis, fun b o e => ?_, ⟨?_, fun a od m => ?_⟩⟩ kd⟩
  · by_cases hb : b ∈ akeys Wf
    · simp only [if_pos hb] at e
      exact e
    · simp only [if_neg hb] at e
      exact oc b o e
  · have hn : a ∉ akeys Wf := fun z => dj a (mem_akeys m) a z rfl
    rw [if_neg hn]
    exact ow.at_ a od (List.mem_append_left _ m)
  · refine n.oc b o ?_
    by_cases hb : b ∈ akeys Wf
    · obtain ⟨od, m⟩ := inF b hb
      rw [(atF b od m).1] at e
      cases e
    · rw [if_neg hb]
      exact e
  · have e : akeys (W' ++ Wf) = akeys W' ++ akeys Wf := by simp [akeys]
    rw [e, List.nodup_append]
    refine ⟨n.own.nd, ndf, fun x hx y hy exy => ?_⟩
    subst exy
    obtain ⟨z, hz, ez⟩ := List.mem_map.mp hx
    have h1 := (n.own.at_ z.1 z.2 hz).1
    rw [ez, if_pos hy] at h1
    obtain ⟨od, m⟩ := inF _ hy
    obtain ⟨o, eo⟩ := (atF _ od m).2.some
    rw [h1] at eo
    cases eo
  · rcases List.mem_append.mp m with m | m
    · obtain ⟨h1, h2⟩ := n.own.at_ a od m
      refine ⟨?_, h2⟩
      by_cases hb : a ∈ akeys Wf
      · obtain ⟨od', m'⟩ := inF a hb
        exact (atF a od' m').1
      · rw [if_neg hb] at h1
        exact h1
    · obtain ⟨h1, h2⟩ := atF a od m
      obtain ⟨o, eo⟩ := h2.some
      have e2 : O' a = some o := n.oc a o (by rw [if_pos (mem_akeys (x := (a, od)) m)]; exact eo)
      rw [eo] at h2
      rw [e2]
      exact ⟨h1, h2.mono n.ext⟩
/-- what a call asks: the part of the owned cells that is handed in, the promise -/
def Hand (S : FS) (ds : List D) (W : Om) (R : D → Om → Prop) : Prop := ∃ Wc Wf, W.Perm (Wc ++ Wf) ∧ S ds Wc fun d W' => R d (W' ++ Wf)
theorem hand0 {ds : List D} (h : S ds [] fun d W' => R d (W' ++ W)) : Hand S ds W R := ⟨[], W, List.Perm.refl _, h⟩
theorem handA {ds : List D} (h : S ds W R) : Hand S ds W R := ⟨W, [], by rw [List.append_nil], by simpa only [List.append_nil] using h⟩
theorem Hand.run {ds : List D} {vs : List V} {Q : VK} (h : Hand S ds W R) (di : Dis O H) (oc : Same C O) (ow : Ow F T H C O W) (k : DenL F T H ds vs) (q : ∀ d W' H' O' v, R d W' → Nx F T C W' H H' O' → Den F T H' d v → Q v (ov O' H')) :
    spN F T S vs (ov O H) Q E := by
  obtain ⟨Wc, Wf, hp, hs⟩ := h
  exact run_sp di oc (ow.perm hp) k hs q
theorem ev_call {dvs : List V} (h : EvA F T tr G W fun ds W1 => Hand S (ds ++ dvs.map D.vl) W1 R) : Ev F T (tCall (spN F T S) dvs E tr) G W R := fun C H O σ w Q q =>
  h C H O σ w _ fun ds W1 H1 O1 vs h1 n k => h1.run n.dis n.oc n.own (k.app (.vls dvs)) fun d W' H' O' v r n2 kd => q d W' H' O' v r (n.trans n2) kd
def fmVals (F : FmKit) (f : Fm) : List D := [.str (F.kind f), .tup (partsD f), .int (F.many f), .int (F.deep f), .str (F.atoms f), .str (F.bare f), .str (F.spell f), .tup ((F.alls f).map .fm)]
inductive Inst (F : FmKit) (W : Om) : D → Nat → List Str → List D → Prop
  | fm (f : Fm) : Inst F W (.fm f) 0 fmNames (fmVals F f)
  | obj (c : Nat) (ns : List Str) (l : List D) : Inst F W (.obj c ns l) c ns l
  | own (a : Addr) (c : Nat) (ns : List Str) (l : List D) : (a, .ins c ns l) ∈ W → Inst F W (.adr a) c ns l
theorem parts_den : ∀ {f : Fm} {ps : List V}, PartsR (FormAt F T H) f ps → DenL F T H (partsD f) ps
  | .at c, _, h => by
    have h : _ = _ := h
    subst h
    exact .one rfl
  | .no, _, h => h
  | .imp a b, _, ⟨p, q, e, h1, h2⟩ => by
    subst e
    exact ⟨_, _, rfl, ⟨p, rfl, h1⟩, .one ⟨q, rfl, h2⟩⟩
  | .all a, _, ⟨p, e, h1⟩ => by
    subst e
    exact .one ⟨p, rfl, h1⟩
theorem alls_den : ∀ {as : List Addr} {fs : List Fm}, AllR (FormAt F T H) as fs → DenL F T H (fs.map .fm) (as.map V.ref)
  | [], _, h => by
    have h : _ = _ := h
    subst h
    rfl
  | a :: as, _, ⟨f, r, e, h1, h2⟩ => by
    subst e
    exact ⟨_, _, rfl, ⟨a, rfl, h1⟩, alls_den h2⟩
theorem Inst.at {c : Nat} {ns : List Str} {x : V} (i : Inst F W d c ns l) (di : Dis O H) (ow : Ow F T H C O W) (k : Den F T H d x) : ∃ a dx fs, x = .ref a ∧ ov O H a = some (.ins (T.cl c) dx fs) ∧ fs.map (·.1) = ns ∧ DenL F T H l (fs.map (·.2)) := by
  cases i with
  | fm f =>
    obtain ⟨a, e, fa⟩ := k
    obtain ⟨dx, pa, ps, al, as, h1, h2, h3, h4, h5⟩ := fa.out
    exact ⟨a, dx, _, e, di.same _ _ h1, rfl, _, _, rfl, rfl, _, _, rfl, ⟨pa, ps, rfl, h2, parts_den h3⟩, _, _, rfl, rfl, _, _, rfl, rfl, _, _, rfl, rfl, _, _, rfl, rfl, _, _, rfl, rfl, _, _, rfl, ⟨al, _, rfl, h4, alls_den h5⟩, rfl⟩
  | obj c ns l =>
    obtain ⟨a, dx, fs, e, h1, h2, h3⟩ := k
    exact ⟨a, dx, fs, e, di.same _ _ h1, h2, h3⟩
  | own a c ns l m =>
    obtain ⟨_, dx, fs, h1, h2, h3⟩ := ow.at_ a _ m
    exact ⟨a, dx, fs, k, ov_own h1, h2, h3⟩
theorem look_zip : ∀ {fs : List (Str × V)} {l : List D} {n : Str} {z : D}, DenL F T H l (fs.map (·.2)) → ((fs.map (·.1)).zip l).lookup n = some z → ∃ v, fs.lookup n = some v ∧ Den F T H z v
  | [], l, n, z, _, e => by simp at e
  | (m, v) :: fs, [], n, z, k, e => by simp at e
  | (m, v) :: fs, d :: l, n, z, ⟨w, r, e1, k1, k2⟩, e => by
    rw [List.map_cons] at e1
    obtain ⟨rfl, rfl⟩ := List.cons.inj e1
    rw [List.map_cons, List.zip_cons_cons, List.lookup_cons] at e
    rw [List.lookup_cons]
    cases q : n == m with
    | true =>
      rw [q] at e
      have e : d = z := Option.some.inj e
      subst e
      exact ⟨v, rfl, k1⟩
    | false =>
      rw [q] at e
      exact look_zip k2 e
theorem look_none : ∀ {fs : List (Str × V)} {n : Str}, n ∉ fs.map (·.1) → fs.lookup n = none
  | [], _, _ => rfl
  | (m, v) :: fs, n, h => by
    rw [List.map_cons, List.mem_cons, not_or] at h
    rw [List.lookup_cons, beq_eq_false_iff_ne.mpr h.1]
    exact look_none h.2
/-- o.f -/
theorem ev_fld {n : Str} (h : Ev F T ta G W fun d W1 => ∃ c ns l z, Inst F W1 d c ns l ∧ Cls T.K (T.cl c) ∧ NoAttr T.K (T.cl c) n ∧ (ns.zip l).lookup n = some z ∧ R z W1) : Ev F T (tFld T.K ta n) G W R := fun C H O σ w Q q =>
  h C H O σ w _ fun d W1 H1 O1 x ⟨c, ns, l, z, i, hc, hn, hl, r⟩ n1 k => by
    obtain ⟨a, dx, fs, e, h1, h2, h3⟩ := i.at n1.dis n1.own k
    subst h2
    obtain ⟨v, hv, kv⟩ := look_zip h3 hl
    exact ⟨a, _, dx, fs, v, e, h1, hc, hn, hv, q z W1 H1 O1 v r n1 kv⟩
/-- o.m(..) -/
theorem ev_meth {c : Nat} {m : Str} {dvs : List V} (h : Ev F T ta G W fun d W1 => ∃ ns l, Inst F W1 d c ns l ∧ m ∉ ns ∧ EvA F T tr G W1 fun ds W2 => Hand S (d :: (ds ++ dvs.map D.vl)) W2 R) : Ev F T (tMeth (T.cl c) m (spN F T S) dvs E ta tr) G W R := fun C H O σ w Q q =>
  h C H O σ w _ fun d W1 H1 O1 x ⟨ns, l, i, hm, ha⟩ n1 k1 => by
    obtain ⟨a, dx, fs, e, h1, h2, h3⟩ := i.at n1.dis n1.own k1
    refine ⟨a, dx, fs, e, h1, look_none (by rw [h2]; exact hm), ha C H1 O1 σ (w.step n1) _ fun ds W2 H2 O2 vs hh n2 k2 => ?_⟩
    exact hh.run n2.dis n2.oc n2.own ⟨x, _, rfl, k1.mono n2.ext, k2.app (.vls dvs)⟩ fun d W' H' O' v r n3 kd => q d W' H' O' v r ((n1.trans n2).trans n3) kd
theorem ev_prop {c : Nat} {dvs : List V} (h : Ev F T ta G W fun d W1 => ∃ ns l, Inst F W1 d c ns l ∧ Hand S (d :: dvs.map D.vl) W1 R) : Ev F T (tProp (T.cl c) (spN F T S) dvs E ta) G W R := fun C H O σ w Q q =>
  h C H O σ w _ fun d W1 H1 O1 x ⟨ns, l, i, hh⟩ n1 k1 => by
    obtain ⟨a, dx, fs, e, h1, h2, h3⟩ := i.at n1.dis n1.own k1
    subst e
    exact ⟨a, dx, fs, rfl, h1, hh.run n1.dis n1.oc n1.own ⟨_, _, rfl, k1, .vls dvs⟩ fun d W' H' O' v r n3 kd => q d W' H' O' v r (n1.trans n3) kd⟩
/-- C(..) -/
theorem run_make {c : Nat} {ds : List D} {vs : List V} {x dx : Addr} {Q : VK} (n : Nx F T C W H H' O') (k : DenL F T H' ds vs) (h : ∀ x, x ∉ akeys W → Hand S (.adr x :: ds) ((x, .ins c [] []) :: W) fun d W' => d = .non ∧ R (.adr x) W')
    (hx : ov O' H' x = none) (hdx : ov O' H' dx = none) (ne : dx ≠ x) (q : ∀ d W2 H2 O2 v, R d W2 → Nx F T C W2 H H2 O2 → Den F T H2 d v → Q v (ov O2 H2)) :
    spN F T S (.ref x :: vs) (upd (upd (ov O' H') dx (.own x)) x (.ins (T.cl c) dx [])) (fun v H2 => v = .non ∧ Q (.ref x) H2) E := by
  obtain ⟨n2, e2, s2⟩ := n.newF (o := .own x) hdx
  rw [e2]
  have hx2 : ov O' (upd H' dx (.own x)) x = none := by rw [← e2, upd_ne ne.symm]; exact hx
  obtain ⟨n3, e3, np⟩ := n2.newO (od := .ins c [] []) (o := .ins (T.cl c) dx []) hx2 ⟨dx, [], rfl, rfl, rfl⟩
  rw [e3]
  refine (h x np).run n3.dis n3.oc n3.own ⟨_, _, rfl, rfl, k.mono s2⟩ fun d W' H2 O2 v ⟨e, r⟩ n4 kd => ?_
  subst e
  exact ⟨kd, q (.adr x) W' H2 O2 _ r (n3.trans n4) rfl⟩
theorem ev_makeR {c : Nat} (h : EvA F T tr G W fun ds W1 => ∀ x, x ∉ akeys W1 → Hand S (.adr x :: ds) ((x, .ins c [] []) :: W1) fun d W' => d = .non ∧ R (.adr x) W') : Ev F T (StX.tMakeR (T.cl c) (spN F T S) E tr) G W R := fun C H O σ w Q q =>
  h C H O σ w _ fun ds W1 H1 O1 vs h1 n k x dx hx hdx ne => run_make n k h1 hx hdx ne q
theorem putF_new : ∀ {fs : List (Str × V)} {n : Str} {v : V}, n ∉ fs.map (·.1) → putF n v fs = fs ++ [(n, v)]
  | [], _, _, _ => rfl
  | (m, x) :: fs, n, v, h => by
    rw [List.map_cons, List.mem_cons, not_or] at h
    unfold putF
    rw [if_neg (fun e => h.1 e.symm), putF_new h.2]
    rfl
theorem putF_at : ∀ {fs : List (Str × V)} {n : Str} {v : V} {j : Nat}, (fs.map (·.1)).Nodup → (fs.map (·.1))[j]? = some n → (putF n v fs).map (·.1) = fs.map (·.1) ∧ (putF n v fs).map (·.2) = (fs.map (·.2)).set j v
  | [], _, _, j, _, e => by simp at e
  | (m, x) :: fs, n, v, 0, nd, e => by
    have e : m = n := Option.some.inj e
    unfold putF
    rw [if_pos e]
    exact ⟨rfl, rfl⟩
  | (m, x) :: fs, n, v, j + 1, nd, e => by
    rw [List.map_cons, List.nodup_cons] at nd
    rw [List.map_cons, List.getElem?_cons_succ] at e
    have hne : m ≠ n := fun q => nd.1 (by rw [q]; exact List.mem_of_getElem? e)
    obtain ⟨h1, h2⟩ := putF_at (v := v) nd.2 e
    unfold putF
    rw [if_neg hne]
    refine ⟨?_, ?_⟩
    · rw [List.map_cons, List.map_cons, h1]
    · rw [List.map_cons, List.map_cons, h2]
      rfl
/-- n of an instance set: a new attribute, or the j-th one -/
inductive Put (n : Str) (z : D) : List Str → List D → List Str → List D → Prop
  | new (ns : List Str) (l : List D) : n ∉ ns → Put n z ns l (ns ++ [n]) (l ++ [z])
  | at (ns : List Str) (l : List D) (j : Nat) : ns.Nodup → ns[j]? = some n → Put n z ns l ns (l.set j z)
theorem Put.odat {n : Str} {z : D} {ns ns' : List Str} {l' : List D} {c : Nat} {dx : Addr} {fs : List (Str × V)} {v : V} (h : Put n z ns l ns' l') (e : fs.map (·.1) = ns) (k : DenL F T H l (fs.map (·.2))) (kz : Den F T H z v) : OdAt F T H (some (.ins (T.cl c) dx (putF n v fs))) (.ins c ns' l') := by
  cases h with
  | new hn =>
    refine ⟨dx, _, rfl, ?_, ?_⟩
    · rw [putF_new (by rw [e]; exact hn), List.map_append, e]
      rfl
    · rw [putF_new (by rw [e]; exact hn), List.map_append]
      exact k.app (.one kz)
  | «at» j nd hj =>
    obtain ⟨h1, h2⟩ := putF_at (v := v) (by rw [e]; exact nd) (by rw [e]; exact hj)
    refine ⟨dx, _, rfl, by rw [h1, e], ?_⟩
    rw [h2]
    exact k.set kz
def gFld (K : PySem.W.Frag) (ta : TE) (f : Str) : TG := fun y σ H Q => ta σ H fun x H2 => ∃ a C dx fs, x = .ref a ∧ H2 a = some (.ins C dx fs) ∧ Cls K C ∧ NoAttr K C f ∧ fs.length < 1000 ∧ Q σ (upd H2 a (.ins C dx (putF f y fs)))
/-- the receiver of a store -/
def Rcv (F : FmKit) (T : Kx) (d z : D) (n : Str) (W : Om) (R : Om → Prop) : Prop := ∃ a c ns l W1 W2 ns' l', d = .adr a ∧ W = W1 ++ (a, .ins c ns l) :: W2 ∧ Cls T.K (T.cl c) ∧ NoAttr T.K (T.cl c) n ∧ ns.length < 1000 ∧ Put n z ns l ns' l' ∧ R (W1 ++ (a, .ins c ns' l') :: W2)
theorem Rcv.run {x y : V} {z : D} {n : Str} {RW : Om → Prop} (h : Rcv F T d z n W RW) (nx : Nx F T C W H H' O') (kx : Den F T H' d x) (ky : Den F T H' z y) : ∃ a C' dx fs, x = .ref a ∧ ov O' H' a = some (.ins C' dx fs) ∧ Cls T.K C' ∧ NoAttr T.K C' n ∧ fs.length < 1000 ∧
    ∃ W2 O2, RW W2 ∧ Nx F T C W2 H H' O2 ∧ upd (ov O' H') a (.ins C' dx (putF n y fs)) = ov O2 H' := by
  obtain ⟨a, c, ns, l, W1, W2, ns', l', e1, e2, hc, hn, hl, hp, r⟩ := h
  subst e1 e2
  have kx : x = .ref a := kx
  obtain ⟨_, dx, fs, h1, h2, h3⟩ := nx.own.at_ a _ (List.mem_append_right _ List.mem_cons_self)
  obtain ⟨n2, e⟩ := nx.write (o := .ins (T.cl c) dx (putF n y fs)) (hp.odat h2 h3 ky)
  have hl2 : fs.length = ns.length := by rw [← h2, List.length_map]
  exact ⟨a, _, dx, fs, kx, ov_own h1, hc, hn, by rw [hl2]; exact hl, _, _, r, n2, e⟩
/-- o.f = e -/
theorem sw_fld {n : Str} (h : Ev F T tb G W fun z W1 => Ev F T ta G W1 fun d W2 => Rcv F T d z n W2 (En1.nx G)) : Sw F T (sFld T.K ta tb n) G W En1 := fun C H O σ w B b =>
  h C H O σ w _ fun z W1 H1 O1 y h1 n1 k1 => h1 C H1 O1 σ (w.step n1) _ fun d W2 H2 O2 x hr n2 k2 => by
    obtain ⟨a, C', dx, fs, e, h1, hc, hn, hl, W3, O3, r, n3, e3⟩ := hr.run (n1.trans n2) k2 (k1.mono n2.ext)
    refine ⟨a, C', dx, fs, e, h1, hc, hn, hl, ?_⟩
    rw [e3]
    exact b.nx G W3 _ _ σ r n3 (w.loc.mono (n1.trans n2).ext)
/-- a target of any form: slots and owned cells may change -/
def Ta (F : FmKit) (T : Kx) (g : TG) (d : D) (G : Gm) (W : Om) (R : Gm → Om → Prop) : Prop :=
  ∀ (C H O : Hp) (σ : St), Wd F T C G W H O σ → ∀ v, Den F T H d v → ∀ Q : St → Hp → Prop, (∀ G' W' H' O' σ', R G' W' → Nx F T C W' H H' O' → Lo F T H' G' σ' → Q σ' (ov O' H')) → g v σ (ov O H) Q
def Tas (F : FmKit) (T : Kx) (g : TGs) (ds : List D) (G : Gm) (W : Om) (R : Gm → Om → Prop) : Prop :=
  ∀ (C H O : Hp) (σ : St), Wd F T C G W H O σ → ∀ vs, DenL F T H ds vs → ∀ Q : St → Hp → Prop, (∀ G' W' H' O' σ', R G' W' → Nx F T C W' H H' O' → Lo F T H' G' σ' → Q σ' (ov O' H')) → g vs σ (ov O H) Q
theorem ta_fld {n : Str} {RR : Gm → Om → Prop} (h : Ev F T ta G W fun x W2 => Rcv F T x d n W2 (RR G)) : Ta F T (gFld T.K ta n) d G W RR := fun C H O σ w v k Q q =>
  h C H O σ w _ fun x W2 H2 O2 y hr n2 k2 => by
    obtain ⟨a, C', dx, fs, e, h1, hc, hn, hl, W3, O3, r, n3, e3⟩ := hr.run n2 k2 (k.mono n2.ext)
    refine ⟨a, C', dx, fs, e, h1, hc, hn, hl, ?_⟩
    rw [e3]
    exact q G W3 _ _ σ r n3 (w.loc.mono n2.ext)
theorem ta_tg {g : TG} {RR : Gm → Om → Prop} (h : Tg F T g d G fun G' => RR G' W) : Ta F T g d G W RR := fun C H O σ w v k Q q =>
  h H _ σ v w.loc w.dis.same k _ fun G' σ' r l => q G' W H O σ' r w.nx l
theorem ta_name {i : Nat} {RR : Gm → Om → Prop} (h : RR (G.set i (some d)) W) : Ta F T (gName i) d G W RR := ta_tg (tg_name h)
theorem tas_nil {RR : Gm → Om → Prop} (h : RR G W) : Tas F T gNil [] G W RR := fun C H O σ w v k Q q => ⟨k, q G W H O σ h w.nx w.loc⟩
theorem tas_cons {g : TG} {gs : TGs} {ds : List D} {RR : Gm → Om → Prop} (h : Ta F T g d G W fun G' W' => Tas F T gs ds G' W' RR) : Tas F T (gCons g gs) (d :: ds) G W RR := fun C H O σ w vs k Q q => by
  obtain ⟨v, r, ev, k1, k2⟩ := k
  exact ⟨v, r, ev, h C H O σ w v k1 _ fun G1 W1 H1 O1 σ1 hh n1 l1 => hh C H1 O1 σ1 ⟨n1.dis, n1.oc, l1, n1.own⟩ r (k2.mono n1.ext) Q fun G2 W2 H2 O2 σ2 r2 n2 l2 => q G2 W2 H2 O2 σ2 r2 (n1.trans n2) l2⟩
theorem ta_tup {n : Nat} {gs : TGs} {ds : List D} {RR : Gm → Om → Prop} (hn : ds.length = n) (h : Tas F T gs ds G W RR) : Ta F T (gTup T.K n gs) (.tup ds) G W RR := fun C H O σ w v k Q q => by
  obtain ⟨a, xs, ev, hs, kl⟩ := k
  exact ⟨a, xs, ev, Same.sqT w.dis.same hs, by rw [kl.len, hn], h C H O σ w xs kl Q q⟩
theorem sw_asgA {g : TG} (h : Ev F T te G W fun d W' => Ta F T g d G W' fun G2 W2 => En1.nx G2 W2) : Sw F T (tAsg te g) G W En1 := fun C H O σ w B b =>
  h C H O σ w _ fun d W' H' O' v r n k => r C H' O' σ (w.step n) v k _ fun G2 W2 H2 O2 σ2 r2 n2 l2 => b.nx G2 W2 H2 O2 σ2 r2 (n.trans n2) l2
theorem sw_asg2 {g1 g2 : TG} (h : Ev F T te G W fun d W' => Ta F T g1 d G W' fun G2 W2 => Ta F T g2 d G2 W2 fun G3 W3 => En1.nx G3 W3) : Sw F T (tAsg2 te g1 g2) G W En1 := fun C H O σ w B b =>
  h C H O σ w _ fun d W' H' O' v r n k => r C H' O' σ (w.step n) v k _ fun G2 W2 H2 O2 σ2 r2 n2 l2 => r2 C H2 O2 σ2 ⟨n2.dis, n2.oc, l2, n2.own⟩ v (k.mono n2.ext) _ fun G3 W3 H3 O3 σ3 r3 n3 l3 => b.nx G3 W3 H3 O3 σ3 r3 ((n.trans n2).trans n3) l3
theorem sw_asg3 {g1 g2 g3 : TG} (h : Ev F T te G W fun d W' => Ta F T g1 d G W' fun G2 W2 => Ta F T g2 d G2 W2 fun G3 W3 => Ta F T g3 d G3 W3 fun G4 W4 => En1.nx G4 W4) : Sw F T (tAsg3 te g1 g2 g3) G W En1 := fun C H O σ w B b =>
  h C H O σ w _ fun d W' H' O' v r n k => r C H' O' σ (w.step n) v k _ fun G2 W2 H2 O2 σ2 r2 n2 l2 => r2 C H2 O2 σ2 ⟨n2.dis, n2.oc, l2, n2.own⟩ v (k.mono n2.ext) _ fun G3 W3 H3 O3 σ3 r3 n3 l3 =>
    r3 C H3 O3 σ3 ⟨n3.dis, n3.oc, l3, n3.own⟩ v ((k.mono n2.ext).mono n3.ext) _ fun G4 W4 H4 O4 σ4 r4 n4 l4 => b.nx G4 W4 H4 O4 σ4 r4 (((n.trans n2).trans n3).trans n4) l4
end
end N
set_option Elab.async false
set_option linter.all false
set_option maxRecDepth 100000
namespace N
open PySem L2
def wipeG (G : Gm) : List Nat → Gm
  | [] => G
  | v :: vs => (wipeG G vs).set v none
theorem wipe_at {σ : St} {i : Nat} : ∀ {vs : List Nat}, (wipe σ vs)[i]? = if i ∈ vs then (σ[i]?).map (fun _ => none) else σ[i]?
  | [] => by simp [wipe]
  | v :: vs => by
    unfold wipe
    have ih := wipe_at (σ := σ) (i := i) (vs := vs)
    rw [List.getElem?_set]
    by_cases h : v = i
    · subst h
      rw [if_pos rfl, if_pos (List.mem_cons_self)]
      rw [wipe_length]
      by_cases hl : v < σ.length
      · rw [if_pos hl, List.getElem?_eq_getElem hl]
        rfl
      · rw [if_neg hl, List.getElem?_eq_none (by omega)]
        rfl
    · rw [if_neg h, ih]
      have : (i ∈ v :: vs) ↔ (i ∈ vs) := by
        rw [List.mem_cons]
        exact ⟨fun z => z.elim (fun q => absurd q.symm h) id, .inr⟩
      by_cases hm : i ∈ vs
      · rw [if_pos hm, if_pos (this.mpr hm)]
      · rw [if_neg hm, if_neg (fun z => hm (this.mp z))]
theorem wipe_wipe {σ : St} {vs : List Nat} : wipe (wipe σ vs) vs = wipe σ vs := by
  apply List.ext_getElem?
  intro i
  rw [wipe_at, wipe_at]
  by_cases h : i ∈ vs
  · simp [h]
    rfl
  · simp [h]
theorem wipe_set {σ : St} {vs : List Nat} {i : Nat} {x : Option V} (h : i ∈ vs) : wipe (σ.set i x) vs = wipe σ vs := by
  apply List.ext_getElem?
  intro j
  rw [wipe_at, wipe_at]
  by_cases hj : j ∈ vs
  · rw [if_pos hj, if_pos hj, List.getElem?_set]
    by_cases e : i = j
    · subst e
      rw [if_pos rfl]
      by_cases hl : i < σ.length
      · rw [if_pos hl, List.getElem?_eq_getElem hl]
        rfl
      · rw [if_neg hl, List.getElem?_eq_none (by omega)]
    · rw [if_neg e]
  · rw [if_neg hj, if_neg hj, List.getElem?_set_ne (fun (e : i = j) => hj (e ▸ h))]
section
variable {F : FmKit} {T : Kx} {C H H' O O' : Hp} {G : Gm} {W W' : Om} {σ : St} {a p : Addr} {d : D} {l : List D}
  {te ta tb tv : TE} {t u : TT} {R R' : D → Om → Prop} {Z : Bool → Om → Prop} {tr tk : TA} {ts tz : TS}
theorem Lo.wipe (lo : Lo F T H G σ) : ∀ vs : List Nat, Lo F T H (wipeG G vs) (wipe σ vs)
  | [] => lo
  | v :: vs => (Lo.wipe lo vs).forget none
/-- a target of the comprehension's own names -/
def Tw (F : FmKit) (T : Kx) (vs : List Nat) (g : TG) (d : D) (G : Gm) (R : Gm → Prop) : Prop :=
  ∀ (H H1 : Hp) (σ : St) (v : V), Lo F T H G σ → Same H H1 → Den F T H d v → ∀ Q : St → Hp → Prop, (∀ G' σ', R G' → Lo F T H G' σ' → wipe σ' vs = wipe σ vs → Q σ' H1) → g v σ H1 Q
variable {vs : List Nat} {Y : Gm → Prop}
theorem tw_name {i : Nat} (hi : i ∈ vs) (h : Y (G.set i (some d))) : Tw F T vs (gName i) d G Y := fun H H1 σ v l _ k Q q => q _ _ h (l.set k) (wipe_set hi)
/-- a hidden cell -/
theorem Nx.hide {o : HO} {Dp : Addr} {W1 : Om} {H1 : Hp} (n : Nx F T C W1 H H1 O') (hD : ov O' H1 Dp = none) : Nx F T (upd C Dp o) W1 H1 H1 (upd O' Dp o) ∧ upd (ov O' H1) Dp o = ov (upd O' Dp o) H1 ∧ C Dp = none := by
  obtain ⟨h1, h2⟩ := ov_none hD
  have cp : C Dp = none := by
    cases e : C Dp with
    | none => rfl
    | some x =>
      rw [n.oc Dp x e] at h1
      cases h1
  refine ⟨⟨Same.refl _, n.dis.updO h2, fun b x e => ?_, ⟨n.own.nd, fun b ob m => ?_⟩⟩, ov_updO, cp⟩
  · by_cases q : b = Dp
    · subst q
      rw [upd_same] at e ⊢
      exact e
    · rw [upd_ne q] at e ⊢
      exact n.oc b x e
  · have : b ≠ Dp := fun q => n.own.notin h1 (q ▸ mem_akeys (x := (b, ob)) m)
    rw [upd_ne this, upd_ne this]
    exact n.own.at_ b ob m
/-- the hidden cell is written -/
theorem Nx.rehide {o o' : HO} {Dp : Addr} {W2 : Om} {H1 H2 O2 : Hp} (n : Nx F T (upd C Dp o) W2 H1 H2 O2) (cp : C Dp = none) : Nx F T (upd C Dp o') W2 H1 H2 (upd O2 Dp o') ∧ upd (ov O2 H2) Dp o' = ov (upd O2 Dp o') H2 := by
  have hO : O2 Dp = some o := n.oc Dp o upd_same
  refine ⟨⟨n.ext, n.dis.updO (n.dis Dp o hO), fun b x e => ?_, ⟨n.own.nd, fun b ob m => ?_⟩⟩, ov_updO⟩
  · by_cases q : b = Dp
    · subst q
      rw [upd_same] at e ⊢
      exact e
    · rw [upd_ne q] at e
      rw [upd_ne q]
      exact n.oc b x (by rw [upd_ne q]; exact e)
  · obtain ⟨c1, c2⟩ := n.own.at_ b ob m
    have hb : b ≠ Dp := fun q => by
      rw [q, upd_same] at c1
      cases c1
    rw [upd_ne hb] at c1
    rw [upd_ne hb, upd_ne hb]
    exact ⟨c1, c2⟩
/-- the hidden cell comes out as an owned one -/
theorem Nx.show {o : HO} {od : OD} {Dp : Addr} {W2 : Om} {H1 H2 O2 : Hp} (n : Nx F T (upd C Dp o) W2 H1 H2 O2) (cp : C Dp = none) (h : OdAt F T H2 (some o) od) : Nx F T C ((Dp, od) :: W2) H1 H2 O2 ∧ Dp ∉ akeys W2 := by
  have hO : O2 Dp = some o := n.oc Dp o upd_same
  have nin : Dp ∉ akeys W2 := fun z => by
    obtain ⟨x, hx, e⟩ := List.mem_map.mp z
    have := (n.own.at_ x.1 x.2 hx).1
    rw [e, upd_same] at this
    cases this
  refine ⟨⟨n.ext, n.dis, fun b x e => n.oc b x (by rw [upd_ne (ne_of_none e cp)]; exact e), ⟨List.nodup_cons.mpr ⟨nin, n.own.nd⟩, fun b ob m => ?_⟩⟩, nin⟩
  rcases List.mem_cons.mp m with e | m
  · obtain ⟨rfl, rfl⟩ := Prod.mk.inj e
    rw [hO]
    exact ⟨cp, h⟩
  · obtain ⟨c1, c2⟩ := n.own.at_ b ob m
    have hb : b ≠ Dp := fun q => by
      rw [q, upd_same] at c1
      cases c1
    rw [upd_ne hb] at c1
    exact ⟨c1, c2⟩
/-- [e for .. in .. if ..] -/
theorem ev_lc {wi : TI} {g : TG} (h : EvI F T wi G W fun ds W1 => ∃ I : Nat → List D → Om → Prop, I 0 [] W1 ∧
      (∀ i d acc W', ds[i]? = some d → I i acc W' → Tw F T vs g d (wipeG G vs) fun G2 => EvT F T t G2 W' fun b W2 => if b = true then Ev F T te G2 W2 (fun z W3 => acc.length < sizeLine ∧ I (i + 1) (acc ++ [z]) W3) else I (i + 1) acc W2) ∧
      (∀ acc W', I ds.length acc W' → ∀ p, p ∉ akeys W' → R (.adr p) ((p, .lst acc) :: W'))) : Ev F T (tLc wi g t te vs) G W R := fun C H O σ w Q q =>
  h C H O σ w _ fun J ds W1 H1 O1 ⟨I, i0, turn, fin⟩ n1 wk Dp hD => by
    obtain ⟨n0, e0, cp⟩ := n1.hide (o := .lst []) hD
    refine ⟨fun i m X => m = ds.length - i ∧ i ≤ ds.length ∧ ∃ acc av W' H' O', X = ov O' H' ∧ Nx F T (upd C Dp (.lst av)) W' H1 H' O' ∧ DenL F T H' acc av ∧ I i acc W', ⟨ds.length, by simp, Nat.zero_le _, [], [], W1, H1, _, e0, n0, rfl, i0⟩, ?_⟩
    rintro i m X ⟨rfl, hi, acc, av, W', H', O', rfl, n, ka, ii⟩
    have k := wk i H' O' n.ext n.dis
    have lo1 := (w.loc.mono n1.ext).mono n.ext
    by_cases hlt : i < ds.length
    · obtain ⟨k1, k2⟩ := k.1 ds[i] (by simp [hlt])
      refine .inr ⟨k1, fun X2 => ∃ acc av W2 H2 O2, X2 = ov O2 H2 ∧ Nx F T (upd C Dp (.lst av)) W2 H1 H2 O2 ∧ DenL F T H2 acc av ∧ I (i + 1) acc W2, fun X2 y => ⟨ds.length - (i + 1), by omega, rfl, hlt, y⟩, fun x X2 y => ?_⟩
      obtain ⟨H2, s2, d2, rfl, kx⟩ := k2 x X2 y
      refine turn i ds[i] acc W' (by simp [hlt]) ii H2 _ _ x ((lo1.mono s2).wipe vs) d2.same kx _ fun G3 σ3 et l3 wz => ⟨wz.trans wipe_wipe, ?_⟩
      refine et (upd C Dp (.lst av)) H2 O' σ3 ⟨d2, n.oc, l3, n.own.mono s2⟩ _ fun b W3 H3 O3 r3 n3 => ?_
      have n03 : Nx F T (upd C Dp (.lst av)) W3 H1 H3 O3 := ⟨(n.ext.trans s2).trans n3.ext, n3.dis, n3.oc, n3.own⟩
      cases b with
      | false => exact ⟨acc, av, W3, H3, O3, rfl, n03, (ka.mono s2).mono n3.ext, r3⟩
      | true =>
        refine r3 (upd C Dp (.lst av)) H3 O3 σ3 ⟨n3.dis, n3.oc, l3.mono n3.ext, n3.own⟩ _ fun z W4 H4 O4 v ⟨hz, i4⟩ n4 k4 => ?_
        have hO : ov O4 H4 Dp = some (.lst av) := ov_own (n4.oc Dp _ upd_same)
        have ka4 := ((ka.mono s2).mono n3.ext).mono n4.ext
        refine ⟨av, hO, by rw [ka.len]; exact hz, ?_⟩
        obtain ⟨n5, e5⟩ := Nx.rehide (o' := .lst (av ++ [v])) (n03.trans n4) cp
        exact ⟨acc ++ [z], av ++ [v], W4, H4, _, e5, n5, ka4.app (.one k4), i4⟩
    · have e : i = ds.length := by omega
      subst e
      refine .inl ⟨k.2 rfl, ?_⟩
      obtain ⟨n6, np⟩ := n.show (od := .lst acc) cp ⟨av, rfl, ka⟩
      exact q (.adr Dp) _ H' O' _ (fin acc W' ii Dp np) (Nx.trans ⟨n1.ext, n1.dis, n1.oc, n1.own⟩ n6) rfl
theorem et_yes (h : Z true W) : EvT F T tYes G W Z := fun C H O σ w Q q => q true W H O h w.nx
def putG {α : Type} (ps : List (Key × α)) (k : Key) (z : α) : List (Key × α) := if (ps.any fun q => decide (q.1 = k)) = true then ps.map (fun q => if q.1 = k then (q.1, z) else q) else ps ++ [(k, z)]
theorem putG_V (kvs : List (Key × V)) (k : Key) (z : V) : putG kvs k z = putK kvs k z := rfl
/-- a dict of pairs -/
@[reducible] def OD.dp (ps : List (Key × D)) : OD := .dct (ps.map (·.1)) (ps.map (·.2))
@[reducible] def D.dp (ps : List (Key × D)) : D := .dct (ps.map (·.1)) (ps.map (·.2))
theorem any_keys {α β : Type} {k : Key} : ∀ {ps : List (Key × α)} {qs : List (Key × β)}, ps.map (·.1) = qs.map (·.1) → (ps.any fun q => decide (q.1 = k)) = qs.any fun q => decide (q.1 = k)
  | [], [], _ => rfl
  | [], q :: qs, h => by simp at h
  | p :: ps, [], h => by simp at h
  | p :: ps, q :: qs, h => by
    rw [List.map_cons, List.map_cons] at h
    obtain ⟨h1, h2⟩ := List.cons.inj h
    rw [List.any_cons, List.any_cons, any_keys h2, h1]
theorem putG_keys {α β : Type} {k : Key} {z : α} {y : β} {ps : List (Key × α)} {qs : List (Key × β)} (h : ps.map (·.1) = qs.map (·.1)) : (putG ps k z).map (·.1) = (putG qs k y).map (·.1) := by
  unfold putG
  rw [any_keys h]
  split
  · rw [List.map_map, List.map_map]
    have e1 : ∀ (α : Type) (z : α) (l : List (Key × α)), l.map ((·.1) ∘ fun q => if q.1 = k then (q.1, z) else q) = l.map (·.1) := fun α z l => List.map_congr_left fun q _ => by
      show (if q.1 = k then (q.1, z) else q).1 = q.1
      split <;> rfl
    rw [e1, e1, h]
  · rw [List.map_append, List.map_append, h]
    rfl
theorem putG_den {k : Key} {z : D} {y : V} (hz : Den F T H z y) : ∀ {ps : List (Key × D)} {kvs : List (Key × V)}, kvs.map (·.1) = ps.map (·.1) → DenL F T H (ps.map (·.2)) (kvs.map (·.2)) → DenL F T H ((putG ps k z).map (·.2)) ((putG kvs k y).map (·.2)) := by
  intro ps kvs h kl
  unfold putG
  rw [any_keys h]
  split
  · rename_i hh
    clear hh
    induction ps generalizing kvs with
    | nil =>
      cases kvs with
      | nil => exact kl
      | cons _ _ => simp at h
    | cons p ps ih =>
      cases kvs with
      | nil => simp at h
      | cons q qs =>
        rw [List.map_cons, List.map_cons] at h
        obtain ⟨h1, h2⟩ := List.cons.inj h
        obtain ⟨v, r, e, k1, k2⟩ := kl
        rw [List.map_cons] at e
        obtain ⟨e1, e2⟩ := List.cons.inj e
        subst e2
        refine ⟨_, _, rfl, ?_, ih h2 k2⟩
        show Den F T H (if p.1 = k then (p.1, z) else p).2 (if q.1 = k then (q.1, y) else q).2
        rw [h1]
        by_cases e : p.1 = k
        · rw [if_pos e, if_pos e]
          exact hz
        · rw [if_neg e, if_neg e, e1]
          exact k1
  · rw [List.map_append, List.map_append]
    exact kl.app (.one hz)
theorem putG_nodup {α : Type} {k : Key} {z : α} {ps : List (Key × α)} (h : (ps.map (·.1)).Nodup) : ((putG ps k z).map (·.1)).Nodup := by
  unfold putG
  split
  · rw [List.map_map]
    have e1 : ps.map ((·.1) ∘ fun q => if q.1 = k then (q.1, z) else q) = ps.map (·.1) := List.map_congr_left fun q _ => by
      show (if q.1 = k then (q.1, z) else q).1 = q.1
      split <;> rfl
    rw [e1]
    exact h
  · rename_i hn
    rw [List.map_append, List.nodup_append]
    refine ⟨h, by simp, fun x hx y hy e => hn ?_⟩
    have hy : y = k := by simpa using hy
    obtain ⟨q, hq, eq⟩ := List.mem_map.mp hx
    rw [List.any_eq_true]
    exact ⟨q, hq, by rw [eq, e, hy]; simp⟩
/-- what a dict gives -/
def getG {α : Type} (ps : List (Key × α)) (k : Key) : Option α := (ps.find? fun q => decide (q.1 = k)).map (·.2)
theorem getG_den {k : Key} : ∀ {ps : List (Key × D)} {kvs : List (Key × V)}, kvs.map (·.1) = ps.map (·.1) → DenL F T H (ps.map (·.2)) (kvs.map (·.2)) → (getG ps k = none ∧ valV kvs k = none) ∨ ∃ z v, getG ps k = some z ∧ valV kvs k = some v ∧ Den F T H z v
  | [], [], _, _ => .inl ⟨rfl, rfl⟩
  | [], q :: qs, h, _ => by simp at h
  | p :: ps, [], h, _ => by simp at h
  | p :: ps, q :: qs, h, kl => by
    rw [List.map_cons, List.map_cons] at h
    obtain ⟨h1, h2⟩ := List.cons.inj h
    obtain ⟨v, r, e, k1, k2⟩ := kl
    rw [List.map_cons] at e
    obtain ⟨e1, e2⟩ := List.cons.inj e
    subst e2
    unfold getG valV
    rw [List.find?_cons, List.find?_cons, h1]
    by_cases e : p.1 = k
    · rw [decide_eq_true e]
      exact .inr ⟨p.2, q.2, rfl, rfl, by rw [e1]; exact k1⟩
    · rw [decide_eq_false e]
      exact getG_den h2 k2
/-- d is a dict of ps: frozen, or owned -/
def Vd (W : Om) (d : D) (ps : List (Key × D)) : Prop := d = .dp ps ∨ ∃ a, d = .adr a ∧ (a, .dp ps) ∈ W
theorem Vd.at {x : V} {ps : List (Key × D)} (h : Vd W d ps) (di : Dis O H) (ow : Ow F T H C O W) (k : Den F T H d x) : ∃ a kvs, x = .ref a ∧ ov O H a = some (.dK kvs) ∧ kvs.map (·.1) = ps.map (·.1) ∧ (ps.map (·.1)).Nodup ∧ DenL F T H (ps.map (·.2)) (kvs.map (·.2)) := by
  rcases h with rfl | ⟨a, rfl, m⟩
  · obtain ⟨a, kvs, e, h1, h2, h3, h4⟩ := k
    exact ⟨a, kvs, e, di.same _ _ h1, h2, h3, h4⟩
  · obtain ⟨_, kvs, h1, h2, h3, h4⟩ := ow.at_ a _ m
    exact ⟨a, kvs, k, ov_own h1, h2, h3, h4⟩
/-- a key as a datum -/
def kD (k : Key) : D := .vl (kV k)
theorem ev_dnew (h : ∀ p, p ∉ akeys W → R (.adr p) ((p, .dp []) :: W)) : Ev F T tDNewK G W R := fun C H O σ w Q q p hp => by
  obtain ⟨n2, e, np⟩ := w.nx.newO (od := .dp []) (o := .dK []) hp ⟨[], rfl, rfl, List.nodup_nil, rfl⟩
  rw [e]
  exact q (.adr p) _ _ _ _ (h p np) n2 rfl
/-- d[k] -/
theorem ev_dget (h : Ev F T ta G W fun d W1 => Ev F T tb G W1 fun y W2 => ∃ ps k z, Vd W2 d ps ∧ y = kD k ∧ getG ps k = some z ∧ R z W2) : Ev F T (tDGet ta tb) G W R := fun C H O σ w Q q =>
  h C H O σ w _ fun d W1 H1 O1 x h1 n1 k1 => h1 C H1 O1 σ (w.step n1) _ fun y W2 H2 O2 yv ⟨ps, k, z, hv, ey, hg, r⟩ n2 k2 => by
    subst ey
    obtain ⟨a, kvs, ex, ha, e1, e2, kl⟩ := hv.at n2.dis n2.own (k1.mono n2.ext)
    have k2 : yv = kV k := k2
    subst ex k2
    rcases getG_den (k := k) e1 kl with ⟨g1, _⟩ | ⟨z', v, g1, g2, kz⟩
    · rw [g1] at hg
      cases hg
    · rw [g1] at hg
      cases hg
      exact ⟨a, v, rfl, .inl ⟨kvs, k, .inl ha, rfl, g2.symm⟩, q z W2 H2 O2 v r (n1.trans n2) kz⟩
/-- d[k] = e -/
theorem sw_dput {td ty tv : TE} {Ed : En} (h : Ev F T tv G W fun z W1 => Ev F T td G W1 fun d W2 => Ev F T ty G W2 fun y W3 => ∃ a ps k Wa Wb, d = .adr a ∧ W3 = Wa ++ (a, .dp ps) :: Wb ∧ y = kD k ∧ ps.length < sizeLine ∧ Ed.nx G (Wa ++ (a, .dp (putG ps k z)) :: Wb)) : Sw F T (sDPut td ty tv) G W Ed := fun C H O σ w B b =>
  h C H O σ w _ fun z W1 H1 O1 zv h1 n1 k1 => h1 C H1 O1 σ (w.step n1) _ fun d W2 H2 O2 x h2 n2 k2 => h2 C H2 O2 σ ((w.step n1).step n2) _ fun y W3 H3 O3 yv ⟨a, ps, k, Wa, Wb, e1, e2, e3, hl, r⟩ n3 k3 => by
    subst e1 e2 e3
    have k2 : x = .ref a := k2
    have k3 : yv = kV k := k3
    subst k2 k3
    obtain ⟨_, kvs, ha, f1, f2, kl⟩ := n3.own.at_ a _ (List.mem_append_right _ List.mem_cons_self)
    have nn := (n1.trans n2).trans n3
    have hl2 : kvs.length = ps.length := by
      have := congrArg List.length f1
      rwa [List.length_map, List.length_map] at this
    refine ⟨a, _, rfl, DPut.k (ov_own ha) (by rw [hl2]; exact hl), ?_⟩
    obtain ⟨n4, e4⟩ := nn.write (o := .dK (putK kvs k zv)) (od2 := .dp (putG ps k z)) ⟨_, rfl, (putG_V kvs k zv) ▸ putG_keys (z := zv) (y := z) f1, putG_nodup f2, (putG_V kvs k zv) ▸ putG_den ((k1.mono n2.ext).mono n3.ext) f1 kl⟩
    rw [e4]
    exact b.nx _ _ _ _ _ r n4 (w.loc.mono nn.ext)
end
end N
set_option Elab.async false
set_option linter.all false
set_option maxRecDepth 100000
namespace N
open PySem PySem.Spec PyProof.Rows L2
section
variable {X : Cx} {CX : CXT} {k : Nat} {C f : Addr} {fd : FuncData} {ps ks : List Str} {sp : Sp} {E : XK} {pins : List (Addr × Obj)} {σ : L2.St} {H : Hp} {s : Shared}
def rOwn1 (C : Addr) (sp : Sp) (E : XK) : V → Hp → VK → Prop := fun x H Q => ∃ a dx fs, x = .ref a ∧ H a = some (.ins C dx fs) ∧ sp [x] H Q E
end
end N
set_option Elab.async false
set_option linter.all false
set_option maxRecDepth 100000
set_option maxHeartbeats 400000
namespace N
open PySem PySem.Spec PyProof.Rows L2
mutual
def D.pd : D → Option PyData
  | .vl .non => some .none
  | .vl (.bl b) => some (.bool b)
  | .vl (.int i) => some (.int i)
  | .vl (.str s) => some (.str s)
  | .vl _ => none
  | .tup l => (pdL l).map .tuple
  | .lst l => (pdL l).map .list
  | .dct _ _ => none
  | .obj _ _ _ => none
  | .fm _ => none
  | .scr _ => none
  | .kdd _ _ _ => none
  | .dcz _ _ => none
  | .tupz _ => none
def pdL : List D → Option (List PyData)
  | [] => some []
  | d :: l => match D.pd d, pdL l with
    | some p, some r => some (p :: r)
    | _, _ => none
end
theorem pdL_cons {d : D} {l : List D} {p : PyData} {r : List PyData} (h1 : d.pd = some p) (h2 : pdL l = some r) : pdL (d :: l) = some (p :: r) := by
  simp only [pdL, h1, h2]
theorem pdL_map {α : Type} (f : α → D) (g : α → PyData) (h : ∀ x, (f x).pd = some (g x)) : ∀ l : List α, pdL (l.map f) = some (l.map g)
  | [] => rfl
  | x :: l => pdL_cons (h x) (pdL_map f g h l)
theorem pd_lst {l : List D} {r : List PyData} (h : pdL l = some r) : (D.lst l).pd = some (.list r) := by simp only [D.pd, h, Option.map_some]
section
variable {F : FmKit} {T : Kx} {C H H' O O' : Hp} {G : Gm} {W W' : Om} {R R' : D → Om → Prop}
mutual
theorem Den.dp : ∀ (d : D) (v : V) (p : PyData), Den F T H d v → d.pd = some p → Dp T.K H v p
  | .vl .non, _, p, h, e => by
    have h : _ = _ := h
    simp only [D.pd, Option.some.injEq] at e
    subst h e
    exact .non
  | .vl (.bl b), _, p, h, e => by
    have h : _ = _ := h
    simp only [D.pd, Option.some.injEq] at e
    subst h e
    exact .bl b
  | .vl (.int i), _, p, h, e => by
    have h : _ = _ := h
    simp only [D.pd, Option.some.injEq] at e
    subst h e
    exact .int i
  | .vl (.str s), _, p, h, e => by
    have h : _ = _ := h
    simp only [D.pd, Option.some.injEq] at e
    subst h e
    exact .str s
  | .vl (.byt _), _, p, _, e => by simp only [D.pd] at e; cases e
  | .vl (.flt _), _, p, _, e => by simp only [D.pd] at e; cases e
  | .vl (.ref _), _, p, _, e => by simp only [D.pd] at e; cases e
  | .vl (.ty _), _, p, _, e => by simp only [D.pd] at e; cases e
  | .tup l, _, p, ⟨a, xs, h1, h2, h3⟩, e => by
    subst h1
    simp only [D.pd] at e
    cases q : pdL l with
    | none =>
      rw [q] at e
      cases e
    | some r =>
      rw [q] at e
      cases e
      exact .tup h2 (DenL.dp l xs r h3 q)
  | .lst l, _, p, ⟨a, xs, h1, h2, h3⟩, e => by
    subst h1
    simp only [D.pd] at e
    cases q : pdL l with
    | none =>
      rw [q] at e
      cases e
    | some r =>
      rw [q] at e
      cases e
      exact .lst (SqL.of h2) (DenL.dp l xs r h3 q)
  | .dct _ _, _, p, _, e => by simp only [D.pd] at e; cases e
  | .obj _ _ _, _, p, _, e => by simp only [D.pd] at e; cases e
  | .fm _, _, p, _, e => by simp only [D.pd] at e; cases e
  | .scr _, _, p, _, e => by simp only [D.pd] at e; cases e
  | .kdd _ _ _, _, p, _, e => by simp only [D.pd] at e; cases e
  | .dcz _ _, _, p, _, e => by simp only [D.pd] at e; cases e
  | .tupz _, _, p, _, e => by simp only [D.pd] at e; cases e
theorem DenL.dp : ∀ (l : List D) (vs : List V) (ps : List PyData), DenL F T H l vs → pdL l = some ps → DpAll T.K H vs ps
  | [], _, ps, h, e => by
    have h : _ = _ := h
    simp only [pdL, Option.some.injEq] at e
    subst h e
    exact .nil
  | d :: l, _, ps, ⟨v, r, h1, h2, h3⟩, e => by
    subst h1
    simp only [pdL] at e
    cases q : D.pd d with
    | none =>
      rw [q] at e
      cases e
    | some p =>
      cases q2 : pdL l with
      | none =>
        rw [q, q2] at e
        cases e
      | some rs =>
        rw [q, q2] at e
        cases e
        exact .cons (Den.dp d v p h2 q) (DenL.dp l r rs h3 q2)
end
/-- d is the datum p: frozen, or an owned list of such -/
def Vp (W : Om) (d : D) (p : PyData) : Prop := d.pd = some p ∨ ∃ l, Vl W d l ∧ (D.lst l).pd = some p
theorem Vp.at {d : D} {p : PyData} {x : V} (h : Vp W d p) (di : Dis O H) (ow : Ow F T H C O W) (k : Den F T H d x) : Dp T.K (ov O H) x p := by
  rcases h with h | ⟨l, hv, h⟩
  · exact Den.dp d x p (k.mono di.same) h
  · obtain ⟨a, xs, e, hs, kl⟩ := hv.sq ow di k
    simp only [D.pd] at h
    cases q : pdL l with
    | none =>
      rw [q] at h
      cases h
    | some r =>
      rw [q] at h
      cases h
      subst e
      exact .lst hs (DenL.dp l xs r (kl.mono di.same) q)
theorem bo_eqD {d1 d2 : D} {p q : PyData} (h1 : Vp W d1 p) (h2 : Vp W d2 q) (s1 : SeqAt.shaped p = true) (s2 : SeqAt.shaped q = true) (r : R (.bl (PyData.eqv p q)) W) : Bo F T (rEqD T.K) d1 d2 W R := fun C H O di oc ow x y hx hy Q k =>
  ⟨p, q, h1.at di ow hx, h2.at di ow hy, s1, s2, k _ W H O _ r (.refl di oc ow) rfl⟩
theorem bo_neD {d1 d2 : D} {p q : PyData} (h1 : Vp W d1 p) (h2 : Vp W d2 q) (s1 : SeqAt.shaped p = true) (s2 : SeqAt.shaped q = true) (r : R (.bl (!PyData.eqv p q)) W) : Bo F T (rNeD T.K) d1 d2 W R := fun C H O di oc ow x y hx hy Q k =>
  ⟨p, q, h1.at di ow hx, h2.at di ow hy, s1, s2, k _ W H O _ r (.refl di oc ow) rfl⟩
end
/-- a value whose repr the heap tells -/
def Told (P : Program) (w : World) (hp : Heap) (u : Value) (p : PyData) : Prop := ∃ ads bs, Reads hp u p ads ∧ ReadAtMost hp p.depth bs ∧ ReprK P w bs hp p.depth u p.shown
def ToldL (P : Program) (w : World) (hp : Heap) (us : List Value) (ps : List PyData) : Prop := ∃ ads bs, ReadsAll hp us ps ads ∧ ReadAtMost hp (PyData.depthAll ps) bs ∧ ReprAllK P w bs hp (PyData.depthAll ps) us (PyData.shownAll ps)
theorem ToldL.c {P : Program} {w : World} {hp : Heap} {u : Value} {us : List Value} {p : PyData} {ps : List PyData} (h1 : Told P w hp u p) (h2 : ToldL P w hp us ps) : ToldL P w hp (u :: us) (p :: ps) := by
  obtain ⟨a1, b1, r1, m1, k1⟩ := h1
  obtain ⟨a2, b2, r2, m2, k2⟩ := h2
  have l1 : p.depth ≤ PyData.depthAll (p :: ps) := by simp only [PyData.depthAll]; omega
  have l2 : PyData.depthAll ps ≤ PyData.depthAll (p :: ps) := by simp only [PyData.depthAll]; omega
  refine ⟨a1 ++ a2, b1 ++ b2, .cons r1 r2, (m1.mono l1).append (m2.mono l2), ?_⟩
  simp only [PyData.shownAll]
  exact .cons ((k1.more fun _ z => List.mem_append_left _ z).level_le l1) (k2.more_le (fun _ z => List.mem_append_right _ z) l2)
section
variable {X : Cx} {pins : List (Addr × Obj)} {σ : L2.St} {H : Hp} {s : Shared}
/-- an empty dict in the heap -/
theorem dk_nil {p : Addr} (I : Inv X pins σ H s) (h : H p = some (.dK [])) : ∃ o n, s.heap.get? p = some o ∧ o.cls = .type "dict" ∧ o.data = .dict #[] n ∧ (p == sysModules) = false := by
  obtain ⟨_, hn, vs, rel, o, es, n, ho, hx, hd, _, hp, _⟩ := dk_of I.hok h
  cases rel
  have e : es = #[] := by
    obtain ⟨l⟩ := es
    have hp : Pairs _ l [] := hp
    cases hp
    rfl
  exact ⟨o, n, ho, hx.1, e ▸ hd, hn⟩
end
structure ShwQ (p : PyData) : Prop where
  sh : p.showable = true
  dp : p.depth ≤ 30
  sz : p.shown.length ≤ sizeLine
structure Shw (p : PyData) : Prop where
  sh : p.showable = true
  nd : p.hasDict = false
  dp : p.depth ≤ 30
  sz : p.shown.length ≤ sizeLine
def FnG (P : Program) (w : World) (K : PySem.W.Frag) (mg : Str → Option Value) (base : Heap) (k : Nat) (f : Addr) (sp : Sp) : Prop :=
  ∀ (A : Around) (outer : List Env) (s : Shared) (H : Hp) (us : List Value) (vs : List V) (Q : VK), A.guards = some [] → Room k A → Env0 P w K mg base A outer s H → Vals vs us → sp vs H Q E0 → codeAny (model P w) A (.call (.ref f) ⟨us, []⟩) (CR CX0 outer P w H s Q E0) s
section
variable {P : Program} {w : World} {K : PySem.W.Frag} {mg : Str → Option Value} {base : Heap}
theorem Fun.okG {x qual : Str} {st : Stmt} {f : Addr} {fd : FuncData} {N ps : List Str} {k : Nat} {sp : Sp} (Fn : Fun K x qual st f fd) (S : FnScope N ps (defScope st)) (len : ∀ vs H Q E, sp vs H Q E → vs.length = ps.length)
    (hb : ∀ (kV doc pm : Value) (an : Option Addr) (cdv ct : Value) (us : List Value), us.length = ps.length → bindArgs (PySem.W.fnOf x qual (defArgs st) (defBody st) (defScope st) .none kV doc pm an cdv ct) ⟨us, []⟩ = pure (ps.zip us))
    (hbody : ∀ (cdv : Value) (A : Around) (outer : List Env) (s : Shared) (H : Hp) (vs : List V) (Q : VK), (A.deeper (envOfC qual (defScope st) s.heap.objs.size f cdv)).guards = some [] → Room k (A.deeper (envOfC qual (defScope st) s.heap.objs.size f cdv)) → sp vs H Q E0 →
      ∃ t, PSs (cxOf CX0 P w K mg base N qual (defScope st) f cdv A outer s H E0).nox (defBody st) t ∧ t { nx := fun _ H' => Q .non H', rt := Q } (start N vs) H) : FnG P w K mg base (k + 1) f sp := by
  obtain ⟨oc, od, kV, doc, pm, an, cdv, ct, osl, rfl, lk, hcd⟩ := Fn.ex
  intro A outer s H us vs Q hg hr e0 r hsp
  have hl := len _ _ _ _ hsp
  refine StX.run_bnd lk hcd S hr e0 (G := fun xs H2 => xs = vs ∧ H2 = H) (fun A' Ex Q' h => ?_) fun s2 H2 xs ⟨e1, e2⟩ hr' => ?_
  · rw [hb kV doc pm an cdv ct us (by rw [← r.length]; exact hl)]
    exact wpAny_pure (h s H vs us e0 Un.refl rfl (fun _ _ z => z) r hl ⟨rfl, rfl⟩)
  · subst e1 e2
    obtain ⟨t, ht, q⟩ := hbody cdv A outer s2 _ _ Q hg hr' hsp
    exact ⟨t, ht.nox, q⟩
theorem run_fnG {X : Cx} {k : Nat} {f : Addr} {sp : Sp} {pins : List (Addr × Obj)} {σ : L2.St} {H : Hp} {s : Shared} {us : List Value} {vs : List V} {Q : VK} (Fn : FnG X.prog X.w X.K X.mg X.base k f sp) (hg : X.A.guards = some []) (hr : Room k X.A) (I : Inv X pins σ H s) (r : Vals vs us) (h : sp vs H Q E0) :
    wpAny (model X.prog X.w) X.A (call (.ref f) us) (EP X pins σ Q) X.xe s := by
  refine wpAny_call (codeAny_mono (Fn X.A X.stack s H us vs Q hg hr I.env0 r h) fun r s' hq => ?_)
  cases r with
  | error e => exact False.elim hq
  | ok fl =>
    cases fl with
    | ret u => exact I.after hq
    | next => exact False.elim hq
    | brk => exact False.elim hq
    | cont => exact False.elim hq
/-- f(e, ..), f such a def -/
theorem pe_callG {X : Cx} {k : Nat} {f : Addr} {sp : Sp} {x : Str} {p pos : Pos} {e : Expr} {es : List Expr} {t : TA} (Fn : FnG X.prog X.w X.K X.mg X.base k f sp) (hgd : X.A.guards = some []) (hr : Room k X.A) (hg : Gl X x) (hm : X.mg x = some (.ref f)) (hk : PySem.W.keepIn X.K (.ref f) = true)
    (ha : PA X (e :: es) t) (hdb : (x == ("__debug__" : Str)) = false := by decide)
    (he : starEach (e :: es) X.env = (false, eval e X.env) :: starEach es X.env := by rfl) (hpl : (backTo pos (starEach es X.env)).any (·.1) = false := by rfl) : PE X (.Call (.Name x p) (e :: es) [] pos) (tCall sp [] E0 t) := by
  refine ⟨fun pins s σ H Q I h => ?_⟩
  refine wpAny_Call_Name_kw (ld_glob I hg hm ?_ hdb)
  refine PySem.W.callWith_K (h₀ := X.base) I.ok.mod.kin hk (thn (ha.run pos pins s σ H _ I h) fun us s1 ⟨vs, H1, I1, r, q⟩ => ⟨I1.kIn, ?_⟩) he hpl
  have q : sp (vs ++ []) H1 Q E0 := q
  rw [List.append_nil] at q
  exact run_fnG Fn hgd hr I1 r q
end
theorem lawG {P : Program} {w : World} {K : PySem.W.Frag} {mg mb : Str → Option Value} {k : Nat} {fa a : Addr} {sp : Sp} {s1 : Shared} {vs : List Value} {ns : List Int}
    (KX : K.In s1.heap) (hns : s1.heap.Ns mainGlobals mg) (hb : s1.heap.Ns builtinsNs mb) (hbb : ∀ x : Str, x ≠ "__name__" → mb x = bootBuiltins x) (hlim : s1.heap.NoLimit) (hg : s1.gens = #[])
    (ha : s1.heap.get? a = some { cls := .type "list", data := .seq vs.toArray }) (hi : IntsAre vs ns) (hl : ns.length ≤ sizeLine) (hr : Room k callerA)
    (Fn : ∀ base : Heap, K.In base → base.Ns mainGlobals mg → FnG P w K mg base k fa sp)
    (hsp : ∀ H : Hp, Only H → SqL K H a (ns.map V.int) → sp [.ref a] H (fun v _ => v = .bl true) E0) :
    codeAny (model P w) callerA (.call (.ref fa) ⟨[.ref a], []⟩) (fun r s' => r = .ok (.ret (.bool true)) ∧ OldK s1.heap s'.heap ∧ s'.os = s1.os ∧ AllBare s'.gens) s1 := by
  have rv := vals_ints hi
  have lenV := hi.length
  have core : ∀ H : Hp, Only H → SqL K H a (ns.map V.int) → HOk P w H s1.heap → (∀ b, H b ≠ none → b = a) → (H a ≠ none → K.lookup a = none) →
      codeAny (model P w) callerA (.call (.ref fa) ⟨[.ref a], []⟩) (fun r s' => r = .ok (.ret (.bool true)) ∧ OldK s1.heap s'.heap ∧ s'.os = s1.os ∧ AllBare s'.gens) s1 := by
    intro H hO hS hok hA hK
    have one : ∀ {b : Addr}, H b ≠ none → b = a := fun z => hA _ z
    have free : ∀ {b : Addr}, (b = a → False) → H b = none := fun {b} z => by
      cases q : H b with
      | none => rfl
      | some u => exact (z (one (by rw [q]; simp))).elim
    have notA : ∀ {b : Addr} {o : Obj} {es : Array DictEntry} {ep : Nat}, s1.heap.get? b = some o → o.data = .dict es ep → H b = none := fun {b o es ep} e d => free fun z => by
      subst z
      rw [ha] at e
      cases e
      cases (show Data.seq vs.toArray _ = Data.dict es ep from d)
    have nsK : ∀ {b : Addr} {m : Str → Option Value}, s1.heap.Ns b m → (hidT s1.heap H).Ns b m := fun ⟨o, es, ep, e, d, r⟩ => ⟨o, es, ep, hidT_get e (notA e d), d, r⟩
    have hKb : K.In (hidT s1.heap H) := fun b o e => hidT_get (KX b o e) (by
      cases q : H b with
      | none => rfl
      | some u =>
        have eb : b = a := one (by rw [q]; simp)
        subst eb
        rw [hK (by rw [q]; simp)] at e
        cases e)
    have hM : Mod K mg (hidT s1.heap H) := ⟨hKb, nsK hns, ⟨mb, nsK hb, hbb⟩, let ⟨mc, h1, h2⟩ := hlim; ⟨mc, nsK h1, h2⟩⟩
    have e0 : Env0 P w K mg (hidT s1.heap H) callerA [] s1 H := ⟨rfl, hM, fun b o e => of_hidT e, Nat.le_of_eq (hidT_size _ _), trivial, fun b hb => absurd (show b ∈ ([] : List Addr) from hb) (by simp), hok, .of_eq hg⟩
    refine codeAny_mono (Fn _ hKb (nsK hns) callerA [] s1 H [.ref a] [.ref a] _ rfl hr e0 (.cons rfl .nil) (hsp H hO hS)) fun r s' h => ?_
    cases r with
    | error e => exact False.elim h
    | ok fl =>
      cases fl with
      | next => exact False.elim h
      | brk => exact False.elim h
      | cont => exact False.elim h
      | ret u =>
        obtain ⟨v, H', os, bare, un, hok', r', q⟩ := h
        have ev : v = .bl true := q
        subst ev
        obtain rfl : u = Value.bool true := r'
        refine ⟨rfl, OldK.of_keep fun b o e => ?_, os, bare⟩
        cases q : H b with
        | none => exact un.keep b o e q (by intro z; exact absurd (show b ∈ ([] : List Addr) from z) (by simp)) (by simp)
        | some u =>
          rcases hO b with z | ⟨ob, xs, z⟩
          · rw [q] at z
            cases z
          · obtain ⟨e1, _⟩ := hok b _ z
            obtain ⟨e2, _⟩ := hok' b _ (un.frzs b ob _ z)
            rw [e] at e1
            cases e1
            exact e2
  cases hk : K.lookup a with
  | some o =>
    have e := KX a o hk
    rw [ha] at e
    cases e
    exact core (fun _ => none) (fun _ => .inl rfl) (.inr ⟨_, vs.toArray, _, hk, rfl, rfl, rfl, by rw [List.size_toArray, lenV]; exact hl, by simpa using rv⟩) (fun b u z => nomatch (show (none : Option HO) = some u from z)) (fun b z => absurd rfl z) fun z => absurd rfl z
  | none =>
    refine core (fun b => if b = a then some (.frz { cls := .type "list", data := .seq vs.toArray } (.lst (ns.map V.int))) else none) (fun b => ?_) (.inl (.inr ⟨{ cls := .type "list", data := .seq vs.toArray }, if_pos rfl⟩)) (fun b u z => ?_) (fun b z => ?_) fun _ => hk
    · by_cases hb : b = a
      · exact .inr ⟨_, _, if_pos hb⟩
      · exact .inl (if_neg hb)
    · by_cases hb : b = a
      · have e := (if_pos hb).symm.trans z
        cases e
        subst hb
        exact ⟨ha, by rw [List.length_map]; exact hl, vs, _, rv, ha⟩
      · cases (if_neg hb).symm.trans z
    · by_cases hb : b = a
      · exact hb
      · exact absurd (if_neg hb) z
end N
set_option Elab.async false
set_option linter.all false
set_option maxRecDepth 100000
namespace N
open PySem PySem.Spec PyProof.Rows L2
def startD (N : List Str) (ds : List D) : Gm := ds.map some ++ List.replicate (N.length - ds.length) none
section
variable {F : FmKit} {T : Kx} {H : Hp}
theorem DenL.lo {N : List Str} {ds : List D} {vs : List V} (k : DenL F T H ds vs) : Lo F T H (startD N ds) (L2.start N vs) := by
  refine ⟨?_, fun i d h => ?_⟩
  · unfold L2.start startD
    simp [k.len]
  · unfold startD at h
    unfold L2.start
    by_cases hi : i < ds.length
    · rw [List.getElem?_append_left (by simpa using hi), List.getElem?_map] at h
      cases e : ds[i]? with
      | none =>
        rw [e] at h
        cases h
      | some d' =>
        rw [e] at h
        cases h
        obtain ⟨v, hv, kv⟩ := k.get e
        refine ⟨v, ?_, kv⟩
        rw [List.getElem?_append_left (by rw [List.length_map, k.len]; exact hi), List.getElem?_map, hv]
        rfl
    · rw [List.getElem?_append_right (by simpa using hi), List.getElem?_replicate] at h
      split at h <;> cases h
end
section
variable {P : Program} {w : World} {K : PySem.W.Frag} {mg : Str → Option Value} {base : Heap} {F : FmKit} {cl : Nat → Addr} {S : FS}
theorem spN_len {n : Nat} (len : ∀ ds W post, S ds W post → ds.length = n) : ∀ vs H Q E, spN F ⟨K, cl⟩ S vs H Q E → vs.length = n := fun vs H Q E ⟨ds, W, C, H1, O, post, _, _, _, _, k, h, _⟩ => by
  rw [k.len]
  exact len ds W post h
/-- the end of a body meets the wish of the call -/
theorem body_run {N : List Str} {t : TS} {vs : List V} {H : Hp} {Q : VK} {E : XK} (h : spN F ⟨K, cl⟩ S vs H Q E) (b : ∀ ds W post, S ds W post → Sw F ⟨K, cl⟩ t (startD N ds) W (E_ post)) : t { nx := fun _ H' => Q .non H', rt := Q } (L2.start N vs) H := by
  obtain ⟨ds, W, C, H1, O, post, e, di, oc, ow, k, hs, q⟩ := h
  subst e
  exact b ds W post hs C H1 O _ ⟨di, oc, k.lo, ow⟩ _ ⟨fun G W' H' O' σ' r n l => q .non W' H' O' .non r n rfl, fun d W' H' O' v r n kd => q d W' H' O' v r n kd, fun _ _ _ _ _ z => z.elim, fun _ _ _ _ _ z => z.elim⟩
theorem okD {x qual : Str} {st : Stmt} {f : Addr} {fd : FuncData} {N ps : List Str} {k : Nat} (Fn : Fun K x qual st f fd) (Sc : FnScope N ps (defScope st)) (len : ∀ ds W post, S ds W post → ds.length = ps.length)
    (body : ∀ (cdv : Value) (A : Around) (outer : List Env) (s : Shared) (H : Hp) (E : XK), Room k (A.deeper (envOfC qual (defScope st) s.heap.objs.size f cdv)) →
      ∃ t, PSs (cxOf CX0 P w K mg base N qual (defScope st) f cdv A outer s H E).nox (defBody st) t ∧ ∀ ds W post, S ds W post → Sw F ⟨K, cl⟩ t (startD N ds) W (E_ post)) : FnOk P w K mg base CX0 (k + 1) f fd ps (spN F ⟨K, cl⟩ S) :=
  Fn.ok Sc (spN_len len) fun cdv A outer s H vs Q E hr h => let ⟨t, ht, b⟩ := body cdv A outer s H E hr; ⟨t, ht, body_run h b⟩
theorem okG {x qual : Str} {st : Stmt} {f : Addr} {fd : FuncData} {N ps : List Str} {k : Nat} (Fn : Fun K x qual st f fd) (Sc : FnScope N ps (defScope st)) (len : ∀ ds W post, S ds W post → ds.length = ps.length)
    (hb : ∀ (kV doc pm : Value) (an : Option Addr) (cdv ct : Value) (us : List Value), us.length = ps.length → bindArgs (PySem.W.fnOf x qual (defArgs st) (defBody st) (defScope st) .none kV doc pm an cdv ct) ⟨us, []⟩ = pure (ps.zip us))
    (body : ∀ (cdv : Value) (A : Around) (outer : List Env) (s : Shared) (H : Hp), (A.deeper (envOfC qual (defScope st) s.heap.objs.size f cdv)).guards = some [] → Room k (A.deeper (envOfC qual (defScope st) s.heap.objs.size f cdv)) →
      ∃ t, PSs (cxOf CX0 P w K mg base N qual (defScope st) f cdv A outer s H E0).nox (defBody st) t ∧ ∀ ds W post, S ds W post → Sw F ⟨K, cl⟩ t (startD N ds) W (E_ post)) : FnG P w K mg base (k + 1) f (spN F ⟨K, cl⟩ S) :=
  Fun.okG Fn Sc (spN_len len) hb fun cdv A outer s H vs Q hg hr h => let ⟨t, ht, b⟩ := body cdv A outer s H hg hr; ⟨t, ht, body_run h b⟩
/-- a def with a star behind n names -/
def starS (n : Nat) (S : FS) : FS := fun ds W post => n ≤ ds.length ∧ ds.length ≤ 1000 ∧ S (ds.take n ++ [.tup (ds.drop n)]) W post
end
end N
set_option Elab.async false
set_option linter.all false
set_option maxRecDepth 100000
namespace N
open PySem PySem.Spec PyProof.Rows L2
open C8 (Cal Met Mak pe_c pe_mt pe_mt0 pe_mk)
/-- the built-in names that a text uses are not hidden -/
structure Blt (mg : Str → Option Value) : Prop where
  len : mg "len" = none
  int : mg "int" = none
  str : mg "str" = none
  range : mg "range" = none
  list : mg "list" = none
  tuple : mg "tuple" = none
  dict : mg "dict" = none
  set : mg "set" = none
  sorted : mg "sorted" = none
  isinstance : mg "isinstance" = none
  repr : mg "repr" = none
  max : mg "max" = none
  min : mg "min" = none
  sum : mg "sum" = none
  all : mg "all" = none
  any : mg "any" = none
  zip : mg "zip" = none
  enumerate : mg "enumerate" = none
  bool : mg "bool" = none
  reversed : mg "reversed" = none
  type : mg "type" = none
theorem bt_int : bootBuiltins "int" = some (.type "int") := by decide +kernel
theorem bt_tuple : bootBuiltins "tuple" = some (.type "tuple") := by decide +kernel
theorem bt_len : bootBuiltins "len" = some (.builtin "len") := by decide +kernel
theorem bt_isinstance : bootBuiltins "isinstance" = some (.builtin "isinstance") := by decide +kernel
theorem bt_repr : bootBuiltins "repr" = some (.builtin "repr") := by decide +kernel
section
variable {P : Program} {w : World} {K : PySem.W.Frag} {mg : Str → Option Value} {base : Heap} {F : FmKit} {cl : Nat → Addr} {S : FS}
/-- a def of the module, by its promise -/
theorem calD {x : Str} {st : Stmt} {f : Addr} {fd : FuncData} {N ps : List Str} {k : Nat} (hm : mg x = some (.ref f)) (Fn : Fun K x x st f fd) (Sc : FnScope N ps (defScope st)) (len : ∀ ds W post, S ds W post → ds.length = ps.length)
    (hb : ∀ (kV doc pm : Value) (an : Option Addr) (cdv ct : Value) (us : List Value), us.length = ps.length → bindArgs (PySem.W.fnOf x x (defArgs st) (defBody st) (defScope st) .none kV doc pm an cdv ct) ⟨us, []⟩ = pure (ps.zip us))
    (body : ∀ (cdv : Value) (A : Around) (outer : List Env) (s : Shared) (H : Hp) (E : XK), Room k (A.deeper (envOfC x (defScope st) s.heap.objs.size f cdv)) →
      ∃ t, PSs (cxOf CX0 P w K mg base N x (defScope st) f cdv A outer s H E).nox (defBody st) t ∧ ∀ ds W post, S ds W post → Sw F ⟨K, cl⟩ t (startD N ds) W (E_ post)) : Cal P w K mg base (k + 1) x (spN F ⟨K, cl⟩ S) [] :=
  ⟨f, fd, ps, [], okD Fn Sc len body, hm, Fn.kp, Fn.binds hb, .nil⟩
/-- .. that knows that no guard runs -/
structure CalG (P : Program) (w : World) (K : PySem.W.Frag) (mg : Str → Option Value) (base : Heap) (k : Nat) (x : Str) (sp : Sp) : Prop where
  ex : ∃ f : Addr, FnG P w K mg base k f sp ∧ mg x = some (.ref f) ∧ PySem.W.keepIn K (.ref f) = true
theorem calG {x : Str} {st : Stmt} {f : Addr} {fd : FuncData} {N ps : List Str} {k : Nat} (hm : mg x = some (.ref f)) (Fn : Fun K x x st f fd) (Sc : FnScope N ps (defScope st)) (len : ∀ ds W post, S ds W post → ds.length = ps.length)
    (hb : ∀ (kV doc pm : Value) (an : Option Addr) (cdv ct : Value) (us : List Value), us.length = ps.length → bindArgs (PySem.W.fnOf x x (defArgs st) (defBody st) (defScope st) .none kV doc pm an cdv ct) ⟨us, []⟩ = pure (ps.zip us))
    (body : ∀ (cdv : Value) (A : Around) (outer : List Env) (s : Shared) (H : Hp), (A.deeper (envOfC x (defScope st) s.heap.objs.size f cdv)).guards = some [] → Room k (A.deeper (envOfC x (defScope st) s.heap.objs.size f cdv)) →
      ∃ t, PSs (cxOf CX0 P w K mg base N x (defScope st) f cdv A outer s H E0).nox (defBody st) t ∧ ∀ ds W post, S ds W post → Sw F ⟨K, cl⟩ t (startD N ds) W (E_ post)) : CalG P w K mg base (k + 1) x (spN F ⟨K, cl⟩ S) :=
  ⟨f, okG Fn Sc len hb body, hm, Fn.kp⟩
end
section
variable {X : Cx} {k j : Nat} {x : Str} {C : Addr} {sp : Sp} {e : Expr} {es : List Expr} {t : TA} {p pos : Pos} {F : FmKit} {T : Kx} {S : FS}
theorem pe_cg (c : CalG X.prog X.w X.K X.mg X.base k x sp) (hgd : X.A.guards = some []) (hr : Room j X.A) (hk : k ≤ j) (hg : Gl X x) (ha : PA X (e :: es) t) (hdb : (x == ("__debug__" : Str)) = false := by decide)
    (he : starEach (e :: es) X.env = (false, eval e X.env) :: starEach es X.env := by rfl) (hpl : (backTo pos (starEach es X.env)).any (·.1) = false := by rfl) : PE X (.Call (.Name x p) (e :: es) [] pos) (tCall sp [] E0 t) := by
  obtain ⟨f, h, hm, hk'⟩ := c.ex
  exact pe_callG h hgd (hr.mono hk) hg hm hk' ha hdb he hpl
def rStrO (C : Addr) (sp : Sp) : List V → Hp → VK → Prop := fun xs H Q => ∃ a dx fs, xs = [.ref a] ∧ H a = some (.ins C dx fs) ∧ sp [.ref a] H (fun v H' => (∃ z, v = .str z) ∧ Q v H') E0
def rLenO (C : Addr) (sp : Sp) : List V → Hp → VK → Prop := fun xs H Q => ∃ a dx fs, xs = [.ref a] ∧ H a = some (.ins C dx fs) ∧ sp [.ref a] H (fun v H' => (∃ n : Int, v = .int n ∧ 0 ≤ n ∧ n < 2 ^ 63) ∧ Q v H') E0
end
section
variable {F : FmKit} {T : Kx} {C H H' O O' : Hp} {G : Gm} {W W' : Om} {R : D → Om → Prop} {S : FS} {ta : TE} {c : Nat}
theorem ev_un {r : V → Hp → VK → Prop} (h : Ev F T ta G W fun d W1 => Ca F T (fun xs H Q => ∃ x, xs = [x] ∧ r x H Q) [d] W1 R) : Ev F T (tUn r ta) G W R := fun C H O σ w Q q =>
  h C H O σ w _ fun d W1 H1 O1 x h1 n1 k1 => by
    obtain ⟨y, e, hr⟩ := h1 C H1 O1 n1.dis n1.oc n1.own [x] (.one k1) Q fun d W' H' O' v rr n k => q d W' H' O' v rr (n1.trans n) k
    cases e
    exact hr
theorem ca_own1 {d : D} {ns : List Str} {l : List D} (i1 : Inst F W d c ns l) (h : Hand S [d] W R) : Ca F T (fun xs H Q => ∃ x, xs = [x] ∧ rOwn1 (T.cl c) (spN F T S) E0 x H Q) [d] W R := ca_one fun C H O di oc ow x k Q q => by
  obtain ⟨a, dx, fs, ex, ha, _⟩ := i1.at di ow k
  exact ⟨x, rfl, a, dx, fs, ex, ha, h.run di oc ow (.one k) q⟩
theorem ca_strO {d : D} {ns : List Str} {l : List D} (i1 : Inst F W d c ns l) (h : Hand S [d] W fun d' W' => (∃ z, d' = .str z) ∧ R d' W') : Ca F T (rStrO (T.cl c) (spN F T S)) [d] W R := ca_one fun C H O di oc ow x k Q q => by
  obtain ⟨a, dx, fs, ex, ha, _⟩ := i1.at di ow k
  subst ex
  refine ⟨a, dx, fs, rfl, ha, h.run di oc ow (.one k) fun d' W' H' O' v ⟨⟨z, ez⟩, r⟩ n kd => ⟨⟨z, ?_⟩, q d' W' H' O' v r n kd⟩⟩
  subst ez
  exact kd
theorem ca_lenO {d : D} {ns : List Str} {l : List D} (i1 : Inst F W d c ns l) (h : Hand S [d] W fun d' W' => (∃ n : Int, d' = .int n ∧ 0 ≤ n ∧ n < 2 ^ 63) ∧ R d' W') : Ca F T (rLenO (T.cl c) (spN F T S)) [d] W R := ca_one fun C H O di oc ow x k Q q => by
  obtain ⟨a, dx, fs, ex, ha, _⟩ := i1.at di ow k
  subst ex
  refine ⟨a, dx, fs, rfl, ha, h.run di oc ow (.one k) fun d' W' H' O' v ⟨⟨z, ez, h0, h1⟩, r⟩ n kd => ⟨⟨z, ?_, h0, h1⟩, q d' W' H' O' v r n kd⟩⟩
  subst ez
  exact kd
end
end N
set_option Elab.async false
set_option linter.all false
set_option maxRecDepth 100000
set_option maxHeartbeats 4000000
namespace XE
open PySem PySem.W PySem.Calls PyProof.Rows
abbrev exTail : List Value := [.type "Exception", .type "BaseException", .type "object"]
/-- own classes, then Exception's mro -/
def refsX : List Value → Bool
  | .ref _ :: r => refsX r
  | l => l == exTail
theorem refsX_cases : ∀ l : List Value, refsX l = true → (∃ c r, l = .ref c :: r ∧ refsX r = true) ∨ l = exTail
  | [], e => .inr (beq_iff_eq.mp e)
  | .ref c :: r, e => .inl ⟨c, r, rfl, e⟩
  | .none :: _, e => .inr (beq_iff_eq.mp e)
  | .ellipsis :: _, e => .inr (beq_iff_eq.mp e)
  | .notImplemented :: _, e => .inr (beq_iff_eq.mp e)
  | .bool _ :: _, e => .inr (beq_iff_eq.mp e)
  | .int _ _ :: _, e => .inr (beq_iff_eq.mp e)
  | .float _ _ :: _, e => .inr (beq_iff_eq.mp e)
  | .str _ _ :: _, e => .inr (beq_iff_eq.mp e)
  | .bytes _ _ :: _, e => .inr (beq_iff_eq.mp e)
  | .type _ :: _, e => .inr (beq_iff_eq.mp e)
  | .builtin _ :: _, e => .inr (beq_iff_eq.mp e)
theorem refsX_pass (self : Value) : ∀ l : List Value, refsX l = true → refuseLoop self "__setattr__" l = pure () := by
  intro l
  induction l with
  | nil => intro e; exact absurd e (by decide)
  | cons a r ih =>
    intro e
    rcases refsX_cases (a :: r) e with ⟨c, r', q, h⟩ | q
    · obtain ⟨rfl, rfl⟩ := List.cons.inj q
      rw [refuseLoop_ref]; exact ih h
    · rw [q]; exact F.store_Exception.passes self
theorem refsX_contains (X : String) : ∀ l : List Value, refsX l = true → l.contains (.type X) = exTail.contains (.type X) := by
  intro l
  induction l with
  | nil => intro e; exact absurd e (by decide)
  | cons a r ih =>
    intro e
    rcases refsX_cases (a :: r) e with ⟨c, r', q, h⟩ | q
    · obtain ⟨rfl, rfl⟩ := List.cons.inj q
      rw [List.contains_cons, ih h]; rfl
    · rw [q]
theorem refsX_ne {l : List Value} (e : refsX l = true) : l.isEmpty = false := by
  cases l with
  | nil => exact absurd e (by decide)
  | cons _ _ => rfl
section
open Builtin Builtin.ObjectAttr
variable {prog : Program} {w : World} {A : Around} {E : Value → Shared → Prop} {R : Result → Shared → Prop} {hp : Heap} {g : Array GenState} {d : Drawn} {t : Nat} {os : OsState}
theorem osa_base {K : W.Frag} {name : Str} {tk : Tok} {v : Value} {x C : Addr} {ox : Obj} {od : Option Obj} {cd : ClassData}
    (X : K.In hp) (I : W.InstAt hp x ox C od) (hcd : W.clsIn K C = some cd) (hm : refsX cd.mro = true) (ha : W.findIn K (.ref C) name = some none)
    (hq : wpAny (model prog w) A.in1 (storeInOwnDict (.ref x) (.ref C) (.str name tk) name v false)
      (fun fin s' => match fin with | .done f => R (.ok f) s' | .again c' => c'.quiet = true ∧ codeAny (model prog w) A c' R s') (fun e s' => R (.error e) s') ⟨hp, g, d, t, os⟩) :
    codeAny (model prog w) A (.call (.builtin "object.__setattr__") ⟨[.ref x, .str name tk, v], []⟩) R ⟨hp, g, d, t, os⟩ := by
  have SF := F.store_object
  have ne := refsX_ne hm
  have hob : cd.mro.contains (.type "object") = true := (refsX_contains "object" _ hm).trans (by decide +kernel)
  have sub : W.Looks (model prog w) hp (isInstance (.ref x) (.type "object")) true := I.type.andThen (W.looks_mroIn X (by unfold W.mroIn; rw [hcd, Option.bind_some, if_neg (by rw [ne]; decide), hob]))
  refine codeAny_call_builtin SF.slot.plain SF.entry (@W.check_slot (model prog w) _ _ ⟨hp, g, d, t, os⟩ "object.__setattr__" "object" "__setattr__" (.ref x) [.str name tk, v] [] _ SF.kind SF.split sub (SF.args (.ref x) (.str name tk) v) ?_)
  have hmr : W.Looks (model prog w) hp (mroOf (.ref C)) cd.mro := (W.looks_clsIn X hcd).andThen .now
  have L3 : W.Looks (model prog w) hp (storeTaker? none) none := .now
  rw [W.osa_eq, refuse_eq]
  refine wpAny_bind (wpAny_bind (I.type.at (wpAny_bind (hmr.at ?_))))
  rw [refsX_pass _ _ hm]
  refine wpAny_pure (wpAny_bind (I.type.at (wpAny_bind ((W.looks_findIn X ha).at (wpAny_bind (L3.at ?_))))))
  exact hq
theorem osa_new {K : W.Frag} {name : Str} {tk : Tok} {v : Value} {x C : Addr} {fv : Array Value} {cd : ClassData}
    (X : K.In hp) (hx : hp.get? x = some { cls := .ref C, data := .fields fv }) (hcd : W.clsIn K C = some cd) (hm : refsX cd.mro = true) (hh : cd.hasDict = true) (ha : W.findIn K (.ref C) name = some none)
    (hq : ∀ h' tk' dx, (∀ b o, b ≠ x → hp.get? b = some o → h'.get? b = some o) → hp.objs.size ≤ dx → dx ≠ x → h'.get? x = some { cls := .ref C, dict := some dx, data := .fields fv } →
      h'.Ns1 dx (fun y => if y = name then some v else none) → R (.ok (.ret .none)) ⟨h', g, d, tk', os⟩) :
    codeAny (model prog w) A (.call (.builtin "object.__setattr__") ⟨[.ref x, .str name tk, v], []⟩) R ⟨hp, g, d, t, os⟩ := by
  have I : W.InstAt hp x { cls := .ref C, data := .fields fv } C none := ⟨hx, rfl, rfl, trivial⟩
  have hxs : x ≠ hp.objs.size := Nat.ne_of_lt (Heap.lt_size hx)
  refine osa_base X I hcd hm ha ?_
  have hcls : W.Looks (model prog w) hp (classData C) cd := W.looks_clsIn X hcd
  obtain ⟨nm, bs, mro, ns, qn, hd, sn, sb, ab, col, del⟩ := cd
  dsimp only at hh
  subst hh
  unfold storeInOwnDict ownDictForStores
  repeat (first | with_reducible refine HandSPX.store_in_new ?_ ?_ | with_reducible refine wpAny_loadPart_at hx ?_ | with_reducible refine hcls.at ?_ | wp_step)
  · exact ⟨_, #[], _, (Heap.get?_update_ne _ _ _ _ hxs.symm).trans (Heap.get?_push_at rfl rfl), rfl, fun e he => absurd he (by simp), fun _ => rfl⟩
  · intro h' tk' hn' hs
    have hx₁ : (hp.push { cls := .type "dict", data := .dict #[] }).get? x = some { cls := .ref C, data := .fields fv } := Heap.get?_push_of_some _ hx
    refine hq h' tk' hp.objs.size (fun b o hb ho => ?_) (Nat.le_refl _) hxs.symm ?_ hn'
    · exact (hs.2 b (Nat.ne_of_lt (Heap.lt_size ho))).trans ((Heap.get?_update_ne _ _ _ _ hb).trans (Heap.get?_push_of_some _ ho))
    · exact (hs.2 x hxs).trans (Heap.get?_update_self _ hx₁ rfl)
end
end XE
namespace L2
open PySem PySem.Spec PyProof.Rows
/-- what the written part says of such a class -/
structure OexX (K : PySem.W.Frag) (C : Addr) : Prop where
  cls : ∃ nm q N bs bm sn sub ab col dd k0 k1 k2 k3 k5, K.lookup C = some (excClassObj nm q C N bs bm true sn sub ab col dd k0 k1 k2 k3 k5 "Exception.__new__") ∧ XE.refsX bm = true
  sa : PySem.W.findIn K (.ref C) "__setattr__" = some (some (.builtin "object.__setattr__"))
  exC : PySem.W.subIn K (.ref C) (.type "BaseException") = some true
  tyC : PySem.W.typeIn K (.ref C) = some (.type "type")
  kC : PySem.W.keepIn K (.ref C) = true
section
variable {X : Cx} {pins : List (Addr × Obj)} {σ : St} {H : Hp} {s : Shared} {a C dx : Addr} {f : Str} {y : V} {u : Value} {fs : List (Str × V)} {Q : Unit → Shared → Prop} {E : Value → Shared → Prop} {A : Around}
/-- self.f = y, the first one -/
theorem ostX_new (T : OexX X.K C) (I : Inv X pins σ H s) (e : H a = some (exo a C none)) (hno : PySem.W.findIn X.K (.ref C) f = some none) (ry : RelV y u)
    (h : ∀ dx s', H dx = none → dx ≠ a → Inv X pins σ (upd (upd H dx (exd dx [(f, y)])) a (exo a C (some dx))) s' → Q () s') : wpAny (model X.prog X.w) A (setAttr (.ref a) f u) Q E s := by
  obtain ⟨nm, q, N, bs, bm, sn, sub, ab, col, dd, k0, k1, k2, k3, k5, hC, hbm⟩ := T.cls
  have hcl : PySem.W.clsIn X.K C = some { name := nm, bases := bs, mro := .ref C :: bm, ns := N, qualname := q, hasDict := true, slotNames := sn, subclasses := sub, abstract := ab, collection := col, hasDel := false } := by unfold PySem.W.clsIn; rw [hC] <;> rfl
  obtain ⟨t1, ho⟩ := exo_at I.hok e
  obtain ⟨hp, g, d, t, os⟩ := s
  refine PySem.W.set_plain I.kIn (ox := { cls := .ref C, dict := none, data := .fields #[.ref t1, .none, .none, .none, .bool false, .none] }) (od := none) ⟨ho, rfl, rfl, trivial⟩ T.sa ?_
  refine XE.osa_new I.kIn ho hcl (show XE.refsX (.ref C :: bm) = true from hbm) rfl hno (fun h' tk' dx k dn dne hx hn => ?_)
  have hnd : H dx = none := I.hok.fresh dn
  have nd : ∀ {b : Addr} {o : Obj}, hp.get? b = some o → b ≠ dx := fun {b o} q => Nat.ne_of_lt (Nat.lt_of_lt_of_le (Heap.lt_size q) dn)
  have na : ∀ {b : Addr}, H b = none → b ≠ a := fun {b} n z => by
    rw [z, e] at n
    cases n
  have Un1 : Un X.fs [] H (upd (upd H dx (exd dx [(f, y)])) a (exo a C (some dx))) hp h' := {
    keep := fun b o q n _ _ => k b o (na n) q
    slot := fun b o q n _ _ => ⟨o.slots, k b o (na n) q⟩
    free := fun b o q n _ => by rw [upd_ne (na n), upd_ne (nd q)]; exact n
    there := fun b o q _ => by
      by_cases hb : b = a
      · exact ⟨_, by rw [hb]; exact hx⟩
      · exact ⟨o, k b o hb q⟩
    tups := fun b xs q => by rw [upd_ne (at_ne e q exo_tup), upd_ne (ne_of_none q hnd)]; exact q
    frzs := fun b o v q => by rw [upd_ne (at_ne e q exo_frz), upd_ne (ne_of_none q hnd)]; exact q
    tbls := fun b ps q => ⟨#[], by rw [upd_ne (at_ne e q exo_tbl), upd_ne (ne_of_none q hnd), q]; simp⟩ }
  refine h dx _ hnd dne (I.un (t' := tk') Un1 fun b o q => ?_)
  by_cases hb : b = a
  · subst hb
    rw [upd_same] at q
    cases q
    exact exo_ok hx
  · rw [upd_ne hb] at q
    by_cases hd : b = dx
    · subst hd
      rw [upd_same] at q
      cases q
      exact exd_ok hn (relO_put (fs := []) ry fun g => True.intro)
    · rw [upd_ne hd] at q
      exact (I.hok b o q).stay (fun c v hc z => k c v (by
          rcases hc with hc | hc
          · rw [hc]
            exact hb
          · exact at_ne e hc exo_own) z)
        (fun c hc => by rw [upd_ne (at_ne e hc exo_own), upd_ne (ne_of_none hc hnd)]; exact hc) (fun c xs hc => by rw [upd_ne (at_ne e hc exo_tup), upd_ne (ne_of_none hc hnd)]; exact hc)
/-- Exception.__init__(self, ..): nothing of it is told -/
theorem oinitX_ok {us : List Value} {Q : Value → Shared → Prop} (T : OexX X.K C) (I : Inv X pins σ H s) (e : H a = some (exo a C none)) (hl : us.length ≤ sizeLine) (h : ∀ s', Inv X pins σ H s' → Q .none s') :
    wpAny (model X.prog X.w) A (call (.builtin "Exception.__init__") (.ref a :: us)) Q E s := by
  obtain ⟨nm, q, N, bs, bm, sn, sub, ab, col, dd, k0, k1, k2, k3, k5, hC, hbm⟩ := T.cls
  obtain ⟨t1, ho⟩ := exo_at I.hok e
  obtain ⟨hp, g, d, t, os⟩ := s
  refine wpAny_call (PySem.HandSPX.init_base F.excBase_Exception (fun Y => XE.refsX_contains Y bm hbm) (I.kIn _ _ hC) ho hl fun h' t2 k hx => ?_)
  have J := I.write (t' := t) (x := a) (e := a) (o := exo a C none) (by rw [e]; exact True.intro) (.inl rfl) k ⟨_, hx⟩ (exo_ok hx)
  have eu : upd H a (exo a C none) = H := by
    funext b
    by_cases hb : b = a
    · rw [hb, upd_same, e]
    · rw [upd_ne hb]
  rw [eu] at J
  exact h _ J
end
/-- B.__init__(self, ..), B an own class that takes Exception's -/
def tExI (K : PySem.W.Frag) (ta : TA) : TE := fun σ H Q => ta σ H fun vs H1 => ∃ (a C : Addr) (ws : List V), vs = .ref a :: ws ∧ ws.length ≤ 1000 ∧ OexX K C ∧ H1 a = some (exo a C none) ∧ Q .non H1
/-- self.f = e, the first field -/
def tOsx (K : PySem.W.Frag) (f : Str) (to te : TE) : TS := fun D σ H => te σ H fun y H1 => to σ H1 fun x H2 => ∃ a C : Addr, x = .ref a ∧ OexX K C ∧ PySem.W.findIn K (.ref C) f = some none ∧
  H2 a = some (exo a C none) ∧ ∀ dx, H2 dx = none → dx ≠ a → D.nx σ (upd (upd H2 dx (exd dx [(f, y)])) a (exo a C (some dx)))
/-- what is asked of the base class whose __init__ is called -/
structure BaseX (K : PySem.W.Frag) (B : Addr) : Prop where
  rd : ClX.CRead K B (.type "type")
  ini : PySem.W.findCls K (.ref B) (.type "type") "__init__" = some (.val (.builtin "Exception.__init__"))
section
variable {X : Cx} {o e : Expr} {es : List Expr} {to te : TE} {ta : TA} {f x : Str} {p p' p1 p2 pos : Pos} {B : Addr}
theorem pe_exinit {pl : Sem Bool} (T : BaseX X.K B) (hg : Gl X x) (hm : X.mg x = some (.ref B)) (ha : PA X (e :: es) ta) (hdb : (x == ("__debug__" : Str)) = false := by decide)
    (hc : eval (.Call (.Attribute (.Name x p1) "__init__" p2) (e :: es) [] pos) X.env = (do
      let ov ← eval (.Name x p1) X.env
      standAt p2.atName
      let (f, first) ← holding [ov] (getMethod ov "__init__" pl)
      callWith pos f first (backTo pos (starEach (e :: es) X.env)) (backToKw pos (keywordEach [] X.env))) := by rfl)
    (he : starEach (e :: es) X.env = (false, eval e X.env) :: starEach es X.env := by rfl) (hpl : (backTo pos (starEach es X.env)).any (·.1) = false := by rfl) :
    PE X (.Call (.Attribute (.Name x p1) "__init__" p2) (e :: es) [] pos) (tExI X.K ta) := by
  refine ⟨fun pins s σ H Q I h => ?_⟩
  refine PySem.W.methodCall_KW (ld_glob I hg hm ?_ hdb) hc
  refine PySem.W.method_cls I.kIn T.rd.ga (PySem.W.cls_value I.kIn T.rd.rd T.ini (by decide +kernel) ?_)
  show wpAny _ _ (callWith pos (Value.builtin "Exception.__init__") [] (backTo pos (starEach (e :: es) X.env)) []) _ _ _
  refine PyProof.Rows.callWith_method1 (thn (ha.run pos pins _ σ H _ (I.tok _) h) fun us s1 ⟨vs, H1, I1, r1, a, C, ws, ev, hl, T, ea, q⟩ => ?_) he hpl
  subst ev
  cases r1 with
  | @cons _ u0 _ ur ra rw' =>
    obtain rfl : u0 = Value.ref a := ra
    have hlen : ur.length ≤ sizeLine := by
      rw [← Paired.length rw', sizeLine_eq]
      omega
    exact oinitX_ok T I1 ea hlen fun s' J => ⟨.non, H1, J, rfl, q⟩
theorem ps_osx (ho : PE X o to) (he : PE X e te) (hs : swapsWith e (some (.Attribute o f p')) pos.line X.env = pure false := by rfl) : PS X (.Assign [.Attribute o f p'] e pos) (tOsx X.K f to te) := by
  refine ⟨fun pins s σ H D I h => ?_⟩
  refine plainObj_wpAny_Assign_Attribute (thn (he.run pins s σ H _ I h) fun v s1 ⟨y, H1, I1, r1, q1⟩ => thn (ho.run pins s1 σ H1 _ I1 q1) fun u s2 ⟨x, H2, I2, r2, a, C, ex, T, hno, ea, q⟩ => ?_) hs
  subst ex
  obtain rfl : u = Value.ref a := r2
  exact ostX_new T I2 ea hno r1 fun dx s' n ne J => ⟨σ, _, J, q dx n ne⟩
theorem pmk_oexX {CX : CXT} {x : Str} {C fI : Addr} {k : Nat} {fd : FuncData} {ps : List Str} {sp : Sp} {ds : List Value} {dvs : List V} (T : OexX X.K C) (iC : PySem.W.findIn X.K (.ref C) "__init__" = some (some (.ref fI))) (tI : PySem.W.typeIn X.K (.ref fI) = some (.type "function"))
    (F1 : FnOk X.prog X.w X.K X.mg X.base CX k fI fd ps sp) (hr : Room (k + 1) X.A) (hb : Binds X.K fd ps ds) (hd : Vals dvs ds) (hx : Passes CX X (fun _ _ _ => False)) (hg : Gl X x) (hm : X.mg x = some (.ref C)) (ha : PA X (e :: es) ta)
    (hdb : (x == ("__debug__" : Str)) = false := by decide) (he : starEach (e :: es) X.env = (false, eval e X.env) :: starEach es X.env := by rfl) (hpl : (backTo pos (starEach es X.env)).any (·.1) = false := by rfl) :
    PMk X (.Call (.Name x p) (e :: es) [] pos) (tMkO C sp dvs ta) := by
  intro pins s σ H Q I h
  obtain ⟨nm, q, N, bs, bm, sn, sub, ab, col, dd, k0, k1, k2, k3, k5, hC, hbm⟩ := T.cls
  refine wpAny_Call_Name_kw (ld_glob I hg hm ?_ hdb)
  refine PySem.W.callWith_K (h₀ := X.base) I.ok.mod.kin T.kC (thn (ha.run pos pins s σ H _ I h) fun us s1 ⟨vs, H1, I1, r1, hz, q1⟩ => ⟨I1.kIn, ?_⟩) he hpl
  show wpAny _ _ (call (.ref C) us) _ _ _
  obtain ⟨hp, g, dr, tk, os⟩ := s1
  have hsz : hp.objs.size ≤ hp.objs.size + 1 := Nat.le_succ _
  have hn : H1 (hp.objs.size + 1) = none := I1.hok.fresh hsz
  have hq := q1 (hp.objs.size + 1) hn
  have kk : ∀ b o, hp.get? b = some o → ((hp.push (PySem.W.kdv_tup us)).push (PySem.HandSPX.excO C hp.objs.size)).get? b = some o := fun b o e => Heap.get?_push_of_some _ (Heap.get?_push_of_some _ e)
  have hget : ((hp.push (PySem.W.kdv_tup us)).push (PySem.HandSPX.excO C hp.objs.size)).get? (hp.objs.size + 1) = some (PySem.HandSPX.excO C hp.objs.size) := by heap_get
  have I2 : Inv X pins σ (upd H1 (hp.objs.size + 1) (exo (hp.objs.size + 1) C none)) ⟨(hp.push (PySem.W.kdv_tup us)).push (PySem.HandSPX.excO C hp.objs.size), g, dr, tk, os⟩ :=
    I1.laid (t' := tk) (a := hp.objs.size + 1) (o := exo (hp.objs.size + 1) C none) (h' := (hp.push (PySem.W.kdv_tup us)).push (PySem.HandSPX.excO C hp.objs.size)) kk hsz (exo_ok hget)
  have r2 : Vals (V.ref (hp.objs.size + 1) :: (vs ++ dvs)) (Value.ref (hp.objs.size + 1) :: (us ++ ds)) := .cons rfl (r1.append hd)
  have hl : (Value.ref (hp.objs.size + 1) :: us ++ ds).length = ps.length := by
    have e := r2.length
    rw [F1.len _ _ _ _ hq] at e
    exact e.symm
  have hus : us.length ≤ sizeLine := by
    rw [← Paired.length r1, sizeLine_eq]
    omega
  refine wpAny_call (PySem.HandSPX.call_own F.excBase_Exception (fun Y => XE.refsX_contains Y bm hbm) (I1.kIn _ _ hC) (PySem.W.looks_findIn I1.kIn iC) (fun self => PySem.W.bind_fn I1.kIn self tI) hus
    (codeAny_mono (F1.run _ X.stack _ _ ⟨Value.ref (hp.objs.size + 1) :: us, []⟩ (Value.ref (hp.objs.size + 1) :: (us ++ ds)) _ _ (fun _ _ _ => False) (hr.make C us []) (I2.env0.make C us []) (hb _ (Value.ref (hp.objs.size + 1) :: us) I2.kIn hl) r2 hq) fun r s' hq' => ?_))
  cases r with
  | error er => exact hx pins σ _ _ er s' I2 hq'
  | ok fl =>
    cases fl with
    | ret u =>
      obtain ⟨v, H2, os2, bare2, un2, hok2, rv, ev, d, fs, ea, ed, hd1, q2⟩ := hq'
      subst ev
      obtain ⟨h2, g2, d2, t2, os'⟩ := s'
      exact ⟨rv, mk_end (raises_own T.exC T.tyC) I1 hsz kk un2 hok2 os2 bare2 ea ed hd1 q2⟩
    | next => exact False.elim hq'
    | brk => exact False.elim hq'
    | cont => exact False.elim hq'
end
end L2
set_option Elab.async false
set_option linter.all false
set_option maxRecDepth 100000
set_option maxHeartbeats 4000000
namespace N
open PySem PySem.Spec PyProof.Rows L2
open C8 (Cal Met Mak pe_c pe_mt pe_mt0 pe_mk)
/-- what __init__ of an error class does -/
def spEr (C : Addr) (f : Str) : Sp := fun vs H Q _ => ∃ a y, vs = [.ref a, y] ∧ H a = some (exo a C none) ∧ ∀ dx, H dx = none → dx ≠ a → Q .non (upd (upd H dx (exd dx [(f, y)])) a (exo a C (some dx)))
structure ErC (K : PySem.W.Frag) (C : Addr) (f : Str) : Prop where
  oex : OexX K C
  xf : XfC K C
  no : PySem.W.findIn K (.ref C) f = some none
structure Err (P : Program) (w : World) (K : PySem.W.Frag) (mg : Str → Option Value) (base : Heap) (k : Nat) (x : Str) (C : Addr) (f : Str) : Prop where
  ex : ∃ (g : Addr) (fd : FuncData) (ps : List Str), ErC K C f ∧ PySem.W.findIn K (.ref C) "__init__" = some (some (.ref g)) ∧ PySem.W.typeIn K (.ref g) = some (.type "function") ∧ FnOk P w K mg base CX0 k g fd ps (spEr C f) ∧ Binds K fd ps [] ∧ mg x = some (.ref C)
def tCmS (C : Addr) (sp : Sp) (E : L2.St → XK) (ta : TE) (t : TA) : TE := fun σ H Q => ta σ H fun x H1 => x = .ref C ∧ t σ H1 fun vs H2 => sp (.ref C :: vs) H2 Q (E σ)
def tCmKS (C : Addr) (n : Nat) (sp : Sp) (gV : List V → List V → List V) (E : L2.St → XK) (ta : TE) (tk : TA) : TE := fun σ H Q => ta σ H fun x H1 => x = .ref C ∧ tk σ H1 fun zs H2 => zs.length = n ∧ sp (gV [.ref C] zs) H2 Q (E σ)
def tMakS (C : Addr) (sp : Sp) (E : L2.St → XK) (t : TA) : TE := fun σ H Q => t σ H fun vs H1 => ∀ x dx, H1 x = none → H1 dx = none → dx ≠ x →
  sp (.ref x :: vs) (upd (upd H1 dx (.own x)) x (.ins C dx [])) (fun v H2 => v = .non ∧ Q (.ref x) H2) (E σ)
def tMakKS (C : Addr) (n : Nat) (sp : Sp) (gV : List V → List V → List V) (E : L2.St → XK) (tk : TA) : TE := fun σ H Q => tk σ H fun zs H2 => zs.length = n ∧ ∀ x dx, H2 x = none → H2 dx = none → dx ≠ x →
  sp (gV [.ref x] zs) (upd (upd H2 dx (.own x)) x (.ins C dx [])) (fun v H3 => v = .non ∧ Q (.ref x) H3) (E σ)
section
variable {X : Cx} {W : WX} {k j n : Nat} {x m f : Str} {C : Addr} {sp : Sp} {e o : Expr} {es : List Expr} {t ta tk : TA} {te : TE} {p pos apos : Pos} {ks : List Str} {gV : List V → List V → List V} {kws : List Keyword}
theorem pmk_err (c : Err X.prog X.w X.K X.mg X.base k x C f) (hr : Room j X.A) (hk : k + 1 ≤ j) (hg : Gl X x) (ha : PA X (e :: es) ta)
    (hdb : (x == ("__debug__" : Str)) = false := by decide) (he : starEach (e :: es) X.env = (false, eval e X.env) :: starEach es X.env := by rfl) (hpl : (backTo pos (starEach es X.env)).any (·.1) = false := by rfl) :
    PMk X (.Call (.Name x p) (e :: es) [] pos) (tMkO C (spEr C f) [] ta) := by
  obtain ⟨g, fd, ps, E, iC, tI, F1, hb, hm⟩ := c.ex
  exact pmk_oexX (sp := spEr C f) (dvs := []) E.oex iC tI F1 (hr.mono hk) hb .nil C8.pass0 hg hm ha hdb he hpl
end
end N
set_option Elab.async false
set_option linter.all false
set_option maxRecDepth 100000
set_option maxHeartbeats 1000000
namespace N
open PySem PySem.Spec PyProof.Rows L2
/-- how an exception leaves: the class, the place of its dict, slots, owned cells (its dict among them) -/
abbrev EX := Nat → Addr → Gm → Om → Prop
/-- the dict of an exception of the class c: none for the classes from 100 on, which keep no fields -/
def dq (c : Nat) (d : Addr) : Option Addr := match Nat.ble 100 c with
  | true => none
  | false => some d
abbrev FX := List D → Om → (D → Om → Prop) → (Nat → Addr → Om → Prop) → Prop
section
variable (F : FmKit) (T : Kx)
def XOk (C H : Hp) (ex : EX) (W0 : WX) : Prop := ∀ c d G W H' O' σ, ex c d G W → Nx F T C W H H' O' → Lo F T H' G σ → W0 (.ref (T.cl c)) (dq c d) σ (ov O' H')
def EvX (W0 : WX) (te : TE) (G : Gm) (W : Om) (R : D → Om → Prop) (ex : EX) : Prop :=
  ∀ (C H O : Hp) (σ : L2.St), Wd F T C G W H O σ → XOk F T C H ex W0 → ∀ Q : VK, (∀ d W' H' O' v, R d W' → Nx F T C W' H H' O' → Den F T H' d v → Q v (ov O' H')) → te σ (ov O H) Q
def SwX (W0 : WX) (ts : TS) (G : Gm) (W : Om) (E : En) (ex : EX) : Prop :=
  ∀ (C H O : Hp) (σ : L2.St), Wd F T C G W H O σ → XOk F T C H ex W0 → ∀ B : Ends, EnOk F T C H E B → ts B σ (ov O H)
def spX (S : FX) : Sp := fun vs X Q E => ∃ (ds : List D) (W : Om) (C H O : Hp) (post : D → Om → Prop) (ex : Nat → Addr → Om → Prop), X = ov O H ∧ Dis O H ∧ Same C O ∧ Ow F T H C O W ∧ DenL F T H ds vs ∧ S ds W post ex ∧
  (∀ d W' H' O' v, post d W' → Nx F T C W' H H' O' → Den F T H' d v → Q v (ov O' H')) ∧ ∀ c d W' H' O', ex c d W' → Nx F T C W' H H' O' → E (.ref (T.cl c)) (dq c d) (ov O' H')
end
section
variable {F : FmKit} {T : Kx} {C H H' O O' : Hp} {G : Gm} {W W' : Om} {σ : L2.St} {a p : Addr} {od : OD} {d : D} {l : List D}
  {te ta tb : TE} {t u : TT} {R R' : D → Om → Prop} {Z : Bool → Om → Prop} {tr tk : TA} {ts tz : TS} {En1 E : En} {ex ex' : EX} {W0 : WX} {S : FX}
theorem XOk.up (h : XOk F T C H ex W0) (e : Same H H') : XOk F T C H' ex W0 := fun c d G W H2 O' σ x n l => h c d G W H2 O' σ x ⟨e.trans n.ext, n.dis, n.oc, n.own⟩ l
theorem evx_of (h : Ev F T te G W R) : EvX F T W0 te G W R ex := fun C H O σ w _ Q q => h C H O σ w Q q
theorem swx_of (h : Sw F T ts G W E) : SwX F T W0 ts G W E ex := fun C H O σ w _ B b => h C H O σ w B b
theorem sw_ofX (h : SwX F T W0 ts G W E fun _ _ _ _ => False) : Sw F T ts G W E := fun C H O σ w B b => h C H O σ w (fun _ _ _ _ _ _ _ z => z.elim) B b
theorem XOk.imp (h : XOk F T C H ex' W0) (i : ∀ c d G W, ex c d G W → ex' c d G W) : XOk F T C H ex W0 := fun c d G W H2 O' σ x n l => h c d G W H2 O' σ (i c d G W x) n l
theorem swx_seq (h : SwX F T W0 ts G W { E with nx := fun G' W' => SwX F T W0 tz G' W' E ex } ex) : SwX F T W0 (tSeq ts tz) G W E ex := fun C H O σ w x B b =>
  h C H O σ w x { B with nx := tz B } ⟨fun G' W' H' O' σ' a n l => a C H' O' σ' ⟨n.dis, n.oc, l, n.own⟩ (x.up n.ext) B (b.up n.ext), b.rt, b.bk, b.ct⟩
theorem swx_if (h : EvT F T t G W fun c W' => if c = true then SwX F T W0 ts G W' E ex else SwX F T W0 tz G W' E ex) : SwX F T W0 (tIfS t ts tz) G W E ex := fun C H O σ w x B b =>
  h C H O σ w _ fun c W' H' O' r n => by
    cases c with
    | true => exact r C H' O' σ (w.step n) (x.up n.ext) B (b.up n.ext)
    | false => exact r C H' O' σ (w.step n) (x.up n.ext) B (b.up n.ext)
theorem swx_set {i : Nat} (h : EvX F T W0 te G W (fun d W' => E.nx (G.set i (some d)) W') ex) : SwX F T W0 (tAsg te (gName i)) G W E ex := fun C H O σ w x B b =>
  h C H O σ w x _ fun d W' H' O' v r n k => b.nx _ W' H' O' _ r n ((w.loc.mono n.ext).set k)
theorem swx_asg {g : TG} (h : EvX F T W0 te G W (fun d W' => Ta F T g d G W' fun G2 W2 => E.nx G2 W2) ex) : SwX F T W0 (tAsg te g) G W E ex := fun C H O σ w x B b =>
  h C H O σ w x _ fun d W' H' O' v r n k => r C H' O' σ (w.step n) v k _ fun G2 W2 H2 O2 σ2 r2 n2 l2 => b.nx G2 W2 H2 O2 σ2 r2 (n.trans n2) l2
theorem swx_ret (h : EvX F T W0 te G W E.rt ex) : SwX F T W0 (tRet te) G W E ex := fun C H O σ w x B b =>
  h C H O σ w x _ fun d W' H' O' v r n k => b.rt d W' H' O' v r n k
theorem swx_drop (h : EvX F T W0 te G W (fun _ W' => E.nx G W') ex) : SwX F T W0 (tDrop te) G W E ex := fun C H O σ w x B b =>
  h C H O σ w x _ fun d W' H' O' v r n k => b.nx G W' H' O' σ r n (w.loc.mono n.ext)
theorem swx_next (h : E.nx G W) : SwX F T W0 tNext G W E ex := swx_of (sw_next h)
theorem swx_brk (h : E.bk G W) : SwX F T W0 tBreak G W E ex := swx_of (sw_brk h)
theorem swx_cont (h : E.ct G W) : SwX F T W0 tCont G W E ex := swx_of (sw_cont h)
theorem swx_retN (h : E.rt .non W) : SwX F T W0 tRetN G W E ex := swx_of (sw_retN h)
theorem swx_par {i j : Nat} (h : EvA F T tr G W fun ds W' => ∃ d1 d2, ds = [d1, d2] ∧ E.nx ((G.set i (some d1)).set j (some d2)) W') : SwX F T W0 (tPar i j tr) G W E ex := swx_of (sw_par h)
theorem swx_fld {n : Str} (h : Ev F T tb G W fun z W1 => Ev F T ta G W1 fun d W2 => Rcv F T d z n W2 (E.nx G)) : SwX F T W0 (sFld T.K ta tb n) G W E ex := swx_of (sw_fld h)
theorem frame {Wc Wf : Om} (di : Dis O H) (oc : Same C O) (ow : Ow F T H C O (Wc ++ Wf)) : ∃ C', Same C' O ∧ Ow F T H C' O Wc ∧ ∀ W' H' O', Nx F T C' W' H H' O' → Nx F T C (W' ++ Wf) H H' O' := by
  have nd := ow.nd
  have nd2 : (akeys Wc ++ akeys Wf).Nodup := by
    have e : akeys (Wc ++ Wf) = akeys Wc ++ akeys Wf := by simp [akeys]
    rw [← e]
    exact nd
  rw [List.nodup_append] at nd2
  obtain ⟨ndc, ndf, dj⟩ := nd2
  have inF : ∀ b, b ∈ akeys Wf → ∃ od, (b, od) ∈ Wf := fun b hb => by
    obtain ⟨x, hx, e⟩ := List.mem_map.mp hb
    exact ⟨x.2, by rw [← e]; exact hx⟩
  have atF : ∀ b od, (b, od) ∈ Wf → C b = none ∧ OdAt F T H (O b) od := fun b od m => ow.at_ b od (List.mem_append_right _ m)
  refine ⟨fun b => if b ∈ akeys Wf then O b else C b, fun b o e => ?_, ⟨ndc, fun a od m => ?_⟩, fun W' H' O' n => ⟨n.ext, n.dis, fun b o e => ?_, ⟨?_, fun a od m => ?_⟩⟩⟩
  · by_cases hb : b ∈ akeys Wf
    · simp only [if_pos hb] at e
      exact e
    · simp only [if_neg hb] at e
      exact oc b o e
  · have hn : a ∉ akeys Wf := fun z => dj a (mem_akeys m) a z rfl
    rw [if_neg hn]
    exact ow.at_ a od (List.mem_append_left _ m)
  · refine n.oc b o ?_
    by_cases hb : b ∈ akeys Wf
    · obtain ⟨od, m⟩ := inF b hb
      rw [(atF b od m).1] at e
      cases e
    · rw [if_neg hb]
      exact e
  · have e : akeys (W' ++ Wf) = akeys W' ++ akeys Wf := by simp [akeys]
    rw [e, List.nodup_append]
    refine ⟨n.own.nd, ndf, fun x hx y hy exy => ?_⟩
    subst exy
    obtain ⟨z, hz, ez⟩ := List.mem_map.mp hx
    have h1 := (n.own.at_ z.1 z.2 hz).1
    rw [ez, if_pos hy] at h1
    obtain ⟨od, m⟩ := inF _ hy
    obtain ⟨o, eo⟩ := (atF _ od m).2.some
    rw [h1] at eo
    cases eo
  · rcases List.mem_append.mp m with m | m
    · obtain ⟨h1, h2⟩ := n.own.at_ a od m
      refine ⟨?_, h2⟩
      by_cases hb : a ∈ akeys Wf
      · obtain ⟨od', m'⟩ := inF a hb
        exact (atF a od' m').1
      · rw [if_neg hb] at h1
        exact h1
    · obtain ⟨h1, h2⟩ := atF a od m
      obtain ⟨o, eo⟩ := h2.some
      have e2 : O' a = some o := n.oc a o (by rw [if_pos (mem_akeys (x := (a, od)) m)]; exact eo)
      rw [eo] at h2
      rw [e2]
      exact ⟨h1, h2.mono n.ext⟩
def HandX (S : FX) (ds : List D) (W : Om) (R : D → Om → Prop) (rx : Nat → Addr → Om → Prop) : Prop := ∃ Wc Wf, W.Perm (Wc ++ Wf) ∧ S ds Wc (fun d W' => R d (W' ++ Wf)) fun c d W' => rx c d (W' ++ Wf)
variable {rx : Nat → Addr → Om → Prop}
theorem handX0 {ds : List D} (h : S ds [] (fun d W' => R d (W' ++ W)) fun c d W' => rx c d (W' ++ W)) : HandX S ds W R rx := ⟨[], W, List.Perm.refl _, h⟩
theorem HandX.run {ds : List D} {vs : List V} {Q : VK} {XE : XK} (h : HandX S ds W R rx) (di : Dis O H) (oc : Same C O) (ow : Ow F T H C O W) (k : DenL F T H ds vs) (q : ∀ d W' H' O' v, R d W' → Nx F T C W' H H' O' → Den F T H' d v → Q v (ov O' H'))
    (x : ∀ c d W' H' O', rx c d W' → Nx F T C W' H H' O' → XE (.ref (T.cl c)) (dq c d) (ov O' H')) : spX F T S vs (ov O H) Q XE := by
  obtain ⟨Wc, Wf, hp, hs⟩ := h
  obtain ⟨C', h1, h2, h3⟩ := frame di oc (ow.perm hp)
  exact ⟨ds, Wc, C', H, O, _, _, rfl, di, h1, h2, k, hs, fun d W' H' O' v r n kd => q d _ H' O' v r (h3 W' H' O' n) kd, fun c d W' H' O' r n => x c d _ H' O' r (h3 W' H' O' n)⟩
theorem evx_call (h : EvA F T tr G W fun ds W1 => HandX S ds W1 R fun c d W' => ex c d G W') : EvX F T W0 (tCallS (spX F T S) (WE W0) tr) G W R ex := fun C H O σ w x Q q =>
  h C H O σ w _ fun ds W1 H1 O1 vs h1 n k => h1.run n.dis n.oc n.own k (fun d W' H' O' v r n2 kd => q d W' H' O' v r (n.trans n2) kd) fun c d W' H' O' r n2 => x c d G W' H' O' σ r (n.trans n2) (w.loc.mono (n.trans n2).ext)
theorem evx_cm {c : Nat} (h : Ev F T te G W fun d W1 => d = .adr (T.cl c) ∧ EvA F T tr G W1 fun ds W2 => HandX S (.adr (T.cl c) :: ds) W2 R fun c d W' => ex c d G W') : EvX F T W0 (tCmS (T.cl c) (spX F T S) (WE W0) te tr) G W R ex := fun C H O σ w x Q q =>
  h C H O σ w _ fun d W1 H1 O1 y ⟨ed, ha⟩ n1 k1 => by
    subst ed
    exact ⟨k1, ha C H1 O1 σ (w.step n1) _ fun ds W2 H2 O2 vs hh n2 k2 => hh.run n2.dis n2.oc n2.own ⟨_, _, rfl, rfl, k2⟩ (fun d W' H' O' v r n3 kd => q d W' H' O' v r ((n1.trans n2).trans n3) kd)
      fun c d W' H' O' r n3 => x c d G W' H' O' σ r ((n1.trans n2).trans n3) (w.loc.mono ((n1.trans n2).trans n3).ext)⟩
theorem evx_cmk {c n : Nat} {gV : List V → List V → List V} (h : Ev F T te G W fun d W1 => d = .adr (T.cl c) ∧ EvA F T tk G W1 fun ds W2 => ds.length = n ∧ ∃ as, (∀ H x zs, Den F T H d x → DenL F T H ds zs → DenL F T H as (gV [x] zs)) ∧ HandX S as W2 R fun c d W' => ex c d G W') :
    EvX F T W0 (tCmKS (T.cl c) n (spX F T S) gV (WE W0) te tk) G W R ex := fun C H O σ w x Q q =>
  h C H O σ w _ fun d W1 H1 O1 y ⟨ed, ha⟩ n1 k1 => by
    subst ed
    refine ⟨k1, ha C H1 O1 σ (w.step n1) _ fun ds W2 H2 O2 vs ⟨hl, as, hg, hh⟩ n2 k2 => ⟨by rw [k2.len]; exact hl, ?_⟩⟩
    exact hh.run n2.dis n2.oc n2.own (hg H2 _ vs rfl k2) (fun d W' H' O' v r n3 kd => q d W' H' O' v r ((n1.trans n2).trans n3) kd)
      fun c d W' H' O' r n3 => x c d G W' H' O' σ r ((n1.trans n2).trans n3) (w.loc.mono ((n1.trans n2).trans n3).ext)
/-- a new instance is handed to a raising __init__ -/
theorem run_makeX {c : Nat} {as : Addr → List D} {vs : Addr → List V} {x dx : Addr} {Q : VK} {XE : XK} (n : Nx F T C W H H' O') (k : ∀ H2 x, Same H' H2 → DenL F T H2 (as x) (vs x)) (h : ∀ x, x ∉ akeys W → HandX S (as x) ((x, .ins c [] []) :: W) (fun d W' => d = .non ∧ R (.adr x) W') rx)
    (hx : ov O' H' x = none) (hdx : ov O' H' dx = none) (ne : dx ≠ x) (q : ∀ d W2 H2 O2 v, R d W2 → Nx F T C W2 H H2 O2 → Den F T H2 d v → Q v (ov O2 H2)) (xq : ∀ c d W2 H2 O2, rx c d W2 → Nx F T C W2 H H2 O2 → XE (.ref (T.cl c)) (dq c d) (ov O2 H2)) :
    spX F T S (vs x) (upd (upd (ov O' H') dx (.own x)) x (.ins (T.cl c) dx [])) (fun v H2 => v = .non ∧ Q (.ref x) H2) XE := by
  obtain ⟨n2, e2, s2⟩ := n.newF (o := .own x) hdx
  rw [e2]
  have hx2 : ov O' (upd H' dx (.own x)) x = none := by rw [← e2, upd_ne ne.symm]; exact hx
  obtain ⟨n3, e3, np⟩ := n2.newO (od := .ins c [] []) (o := .ins (T.cl c) dx []) hx2 ⟨dx, [], rfl, rfl, rfl⟩
  rw [e3]
  refine (h x np).run n3.dis n3.oc n3.own (k _ x s2) (fun d W' H2 O2 v ⟨e, r⟩ n4 kd => ?_) fun c d W' H2 O2 r n4 => xq c d W' H2 O2 r (n3.trans n4)
  subst e
  exact ⟨kd, q (.adr x) W' H2 O2 _ r (n3.trans n4) rfl⟩
theorem evx_mk {c : Nat} (h : EvA F T tr G W fun ds W1 => ∀ x, x ∉ akeys W1 → HandX S (.adr x :: ds) ((x, .ins c [] []) :: W1) (fun d W' => d = .non ∧ R (.adr x) W') fun c d W' => ex c d G W') : EvX F T W0 (tMakS (T.cl c) (spX F T S) (WE W0) tr) G W R ex := fun C H O σ w xo Q q =>
  h C H O σ w _ fun ds W1 H1 O1 vs h1 n k x dx hx hdx ne => run_makeX (as := fun x => .adr x :: ds) (vs := fun x => .ref x :: vs) n (fun H2 x s => ⟨_, _, rfl, rfl, k.mono s⟩) h1 hx hdx ne q
    fun c d W' H' O' r n2 => xo c d G W' H' O' σ r n2 (w.loc.mono n2.ext)
theorem evx_mkk {c m : Nat} {gV : List V → List V → List V} (h : EvA F T tk G W fun ds W1 => ds.length = m ∧ ∃ as : Addr → List D, (∀ H x zs, DenL F T H ds zs → DenL F T H (as x) (gV [.ref x] zs)) ∧ ∀ x, x ∉ akeys W1 → HandX S (as x) ((x, .ins c [] []) :: W1) (fun d W' => d = .non ∧ R (.adr x) W') fun c d W' => ex c d G W') :
    EvX F T W0 (tMakKS (T.cl c) m (spX F T S) gV (WE W0) tk) G W R ex := fun C H O σ w xo Q q =>
  h C H O σ w _ fun ds W1 H1 O1 vs ⟨hl, as, hg, h1⟩ n k => ⟨by rw [k.len]; exact hl, fun x dx hx hdx ne => run_makeX (as := as) (vs := fun x => gV [.ref x] vs) n (fun H2 x s => hg H2 x vs (k.mono s)) h1 hx hdx ne q
    fun c d W' H' O' r n2 => xo c d G W' H' O' σ r n2 (w.loc.mono n2.ext)⟩
theorem swx_raise {c : Nat} {f : Str} (h : EvA F T tr G W fun ds W1 => ∃ z, ds = [z] ∧ ∀ d, d ∉ akeys W1 → ex c d G ((d, .xd [f] [z]) :: W1)) (hc : Nat.ble 100 c = false) :
    SwX F T W0 (fun _ σ H => tMkO (T.cl c) (spEr (T.cl c) f) [] tr σ H fun cls d H' => W0 cls d σ H') G W E ex := fun C H O σ w xo B b =>
  h C H O σ w _ fun ds W1 H1 O1 vs ⟨z, e, hz⟩ n k => by
    subst e
    obtain ⟨v, r', e1, k1, e2⟩ := k
    have e2 : r' = [] := e2
    subst e2 e1
    refine ⟨by simp, fun a ha => ⟨a, v, rfl, upd_same, fun dx h1 h2 => ⟨rfl, dx, [(f, v)], upd_same, ?_, ?_, ?_⟩⟩⟩
    · rw [upd_ne h2, upd_same]
    · rwa [upd_ne h2] at h1
    · have h3 : ov O1 H1 dx = none := by rwa [upd_ne h2] at h1
      have e : upd (del (upd (upd (upd (ov O1 H1) a (exo a (T.cl c) none)) dx (exd dx [(f, v)])) a (exo a (T.cl c) (some dx))) a) dx (.xd [(f, v)]) = upd (ov O1 H1) dx (.xd [(f, v)]) := by
        funext y
        by_cases hy : y = dx
        · rw [hy, upd_same, upd_same]
        · rw [upd_ne hy, upd_ne hy]
          unfold del
          by_cases ha2 : y = a
          · rw [if_pos ha2, ha2, ha]
          · rw [if_neg ha2, upd_ne ha2, upd_ne hy, upd_ne ha2]
      show W0 _ _ σ (upd (L2.del _ a) dx _)
      have e' := e
      obtain ⟨n2, e3, np⟩ := n.newO (od := .xd [f] [z]) (o := .xd [(f, v)]) h3 ⟨[(f, v)], rfl, rfl, .one k1⟩
      rw [show upd (L2.del (upd (upd (upd (ov O1 H1) a (exo a (T.cl c) none)) dx (exd dx [(f, v)])) a (exo a (T.cl c) (some dx))) a) dx (.xd [(f, v)]) = upd (ov O1 H1) dx (.xd [(f, v)]) from e', e3]
      have xx := xo c dx G _ _ _ σ (hz dx np) n2 (w.loc.mono n2.ext)
      rw [show dq c dx = some dx from by unfold dq; rw [hc]] at xx
      exact xx
/-- raise X(), X a class without fields -/
theorem swx_raise0 {c : Nat} (h : ex c 0 G W) (hc : Nat.ble 100 c = true := by rfl) : SwX F T W0 (fun _ σ H => W0 (.ref (T.cl c)) none σ H) G W E ex := fun C H O σ w xo B b => by
  have xx := xo c 0 G W H O σ h w.nx w.loc
  rw [show dq c 0 = none from by unfold dq; rw [hc]] at xx
  exact xx
theorem swx_try {tb : WX → TS} {sx : Addr → Value → Option Addr → TS} {cc i : Nat} {ex1 : EX} (hb : ∀ W1, SwX F T W1 (tb W1) G W E ex1)
    (hs : ∀ c d G' W', ex1 c d G' W' → ∃ b, PySem.W.exmOne T.K (.ref (T.cl c)) (.ref (T.cl cc)) = some b ∧ (b = true → ∀ a, Sw F T (sx a (.ref (T.cl c)) (dq c d)) (G'.set i (some (.adr a))) W'
      { nx := fun G2 W2 => E.nx (G2.set i none) W2, rt := E.rt, bk := fun G2 W2 => E.bk (G2.set i none) W2, ct := fun G2 W2 => E.ct (G2.set i none) W2 }) ∧ (b = false → ex c d G' W')) :
    SwX F T W0 (fun B σ H => tb (wAs T.K (.ref (T.cl cc)) i sx W0 B) B σ H) G W E ex := fun C H O σ w xo B b => by
  refine hb _ C H O σ w (fun c d G' W' H' O' σ' e n l => ?_) B b
  obtain ⟨bb, h1, h2, h3⟩ := hs c d G' W' e
  refine ⟨bb, h1, fun q a ha => ?_, fun q => xo c d G' W' H' O' σ' (h3 q) n l⟩
  refine h2 q a C H' O' _ ⟨n.dis, n.oc, l.set rfl, n.own⟩ _ ⟨fun G2 W2 H2 O2 σ2 z n2 l2 => b.nx _ W2 H2 O2 _ z (n.trans n2) (l2.forget none), fun d W2 H2 O2 v z n2 k2 => b.rt d W2 H2 O2 v z (n.trans n2) k2,
    fun G2 W2 H2 O2 σ2 z n2 l2 => b.bk _ W2 H2 O2 _ z (n.trans n2) (l2.forget none), fun G2 W2 H2 O2 σ2 z n2 l2 => b.ct _ W2 H2 O2 _ z (n.trans n2) (l2.forget none)⟩
theorem swx_tryG {tb : (Ends → WX) → TS} {sx : Addr → Value → Option Addr → TS} {cc i : Nat} {ex1 : EX} (hp : ∀ w B, tb w B = tb (fun _ => w B) B) (hb : ∀ W1, SwX F T W1 (tb fun _ => W1) G W E ex1)
    (hs : ∀ c d G' W', ex1 c d G' W' → ∃ b, PySem.W.exmOne T.K (.ref (T.cl c)) (.ref (T.cl cc)) = some b ∧ (b = true → ∀ a, Sw F T (sx a (.ref (T.cl c)) (dq c d)) (G'.set i (some (.adr a))) W'
      { nx := fun G2 W2 => E.nx (G2.set i none) W2, rt := E.rt, bk := fun G2 W2 => E.bk (G2.set i none) W2, ct := fun G2 W2 => E.ct (G2.set i none) W2 }) ∧ (b = false → ex c d G' W')) :
    ∀ wx, wAs T.K (.ref (T.cl cc)) i sx W0 = wx → SwX F T W0 (tb wx) G W E ex := by
  rintro _ rfl
  have h := swx_try (tb := fun W => tb fun _ => W) hb hs (W0 := W0) (ex := ex)
  have e : (fun B σ H => tb (fun _ => wAs T.K (.ref (T.cl cc)) i sx W0 B) B σ H) = tb (wAs T.K (.ref (T.cl cc)) i sx W0) := funext fun B => (hp _ B).symm
  rw [e] at h
  exact h
end
section
variable {P : Program} {w : World} {K : PySem.W.Frag} {mg : Str → Option Value} {base : Heap} {F : FmKit} {cl : Nat → Addr} {S : FX}
/-- the wish of a def about what it lets out -/
abbrev WD (E : XK) : WX := fun cls d _ H => E cls d H
theorem spX_len {n : Nat} (len : ∀ ds W post ex, S ds W post ex → ds.length = n) : ∀ vs H Q E, spX F ⟨K, cl⟩ S vs H Q E → vs.length = n := fun vs H Q E ⟨ds, W, C, H1, O, post, ex, _, _, _, _, k, h, _⟩ => by
  rw [k.len]
  exact len ds W post ex h
theorem body_runX {N : List Str} {t : TS} {vs : List V} {H : Hp} {Q : VK} {E : XK} (h : spX F ⟨K, cl⟩ S vs H Q E) (b : ∀ ds W post ex, S ds W post ex → SwX F ⟨K, cl⟩ (WD E) t (startD N ds) W (E_ post) fun c d _ W => ex c d W) : t { nx := fun _ H' => Q .non H', rt := Q } (L2.start N vs) H := by
  obtain ⟨ds, W, C, H1, O, post, ex, e, di, oc, ow, k, hs, q, x⟩ := h
  subst e
  exact b ds W post ex hs C H1 O _ ⟨di, oc, k.lo, ow⟩ (fun c d G W' H' O' σ' r n _ => x c d W' H' O' r n) _ ⟨fun G W' H' O' σ' r n l => q .non W' H' O' .non r n rfl, fun d W' H' O' v r n kd => q d W' H' O' v r n kd, fun _ _ _ _ _ z => z.elim, fun _ _ _ _ _ z => z.elim⟩
end
end N
set_option Elab.async false
set_option linter.all false
set_option maxRecDepth 100000
set_option maxHeartbeats 1000000
namespace N
open PySem PySem.Spec PyProof.Rows L2
/-- an exception on the ground, ahead of the clauses -/
structure Lnd (X : Cx) (pins : List (Addr × Obj)) (σ : L2.St) (H : Hp) (a : Addr) (cls : Value) (d : Option Addr) (B : Heap) (sI s : Shared) : Prop where
  stk : X.stack = X.env :: X.outer
  frm : X.env.frame = some X.env.locals
  inv : Inv X pins σ H sI
  base : ∀ b o, sI.heap.get? b = some o → b ∉ frs X.stack → B.get? b = some o
  up : sI.heap.UpToSlots s.heap
  fly : HandSPX.FlyingZ B (X.env :: X.outer) a (Zc cls d) s.heap
  new : H a = none
  os : s.os = sI.os
  bare : AllBare s.gens
section
variable {X : Cx} {pins : List (Addr × Obj)} {σ : L2.St} {H : Hp} {a : Addr} {cls : Value} {d : Option Addr} {B : Heap} {sI s : Shared} {D : Ends} {Wo : WX}
theorem Lnd.now (L : Lnd X pins σ H a cls d B sI s) : Inv X pins σ H s := L.inv.landed L.base L.fly.1 L.up L.os L.bare
end
end N
set_option Elab.async false
set_option linter.all false
set_option maxRecDepth 100000
namespace N
open PySem PySem.Spec PyProof.Rows L2
section
variable {F : FmKit} {T : Kx} {C H H' O O' : Hp} {G : Gm} {W W' : Om} {R : D → Om → Prop} {S : FS} {ta tb te : TE} {tr : TA} {c : Nat} {t u : TT} {Z : Bool → Om → Prop} {ts tz : TS} {E : En}
theorem bo_I0 {g : Int → Int → V} {i j : Int} (h : R (.vl (g i j)) W) : Bo F T (rI0 g) (.int i) (.int j) W R := op_sc fun H Q k => ⟨i, j, rfl, rfl, k _ h⟩
theorem bo_I {Cc : Int → Int → Prop} {g : Int → Int → V} {i j : Int} (hc : Cc i j) (h : R (.vl (g i j)) W) : Bo F T (rI Cc g) (.int i) (.int j) W R := op_sc fun H Q k => ⟨i, j, rfl, rfl, hc, k _ h⟩
theorem bo_eq {x y : V} (hs : scal x y = true) (h : R (.bl (decide (x = y))) W) : Bo F T rEq (.vl x) (.vl y) W R := op_sc fun H Q k => ⟨hs, k _ h⟩
theorem bo_ne {x y : V} (hs : scal x y = true) (h : R (.bl (!decide (x = y))) W) : Bo F T rNe (.vl x) (.vl y) W R := op_sc fun H Q k => ⟨hs, k _ h⟩
theorem dec_int (i j : Int) : decide (V.int i = V.int j) = decide (i = j) := by
  by_cases h : i = j
  · subst h
    simp
  · rw [decide_eq_false h, decide_eq_false (fun e => h (V.int.inj e))]
theorem dec_str (i j : Str) : decide (V.str i = V.str j) = decide (i = j) := by
  by_cases h : i = j
  · subst h
    simp
  · rw [decide_eq_false h, decide_eq_false (fun e => h (V.str.inj e))]
theorem dec_bl (i j : Bool) : decide (V.bl i = V.bl j) = decide (i = j) := by cases i <;> cases j <;> decide
theorem bo_eqI {i j : Int} (h : R (.bl (decide (i = j))) W) : Bo F T rEq (.int i) (.int j) W R := bo_eq rfl (by rw [dec_int]; exact h)
theorem bo_neI {i j : Int} (h : R (.bl (!decide (i = j))) W) : Bo F T rNe (.int i) (.int j) W R := bo_ne rfl (by rw [dec_int]; exact h)
theorem bo_eqS {i j : Str} (h : R (.bl (decide (i = j))) W) : Bo F T rEq (.str i) (.str j) W R := bo_eq rfl (by rw [dec_str]; exact h)
theorem bo_neS {i j : Str} (h : R (.bl (!decide (i = j))) W) : Bo F T rNe (.str i) (.str j) W R := bo_ne rfl (by rw [dec_str]; exact h)
theorem bo_eqB {i j : Bool} (h : R (.bl (decide (i = j))) W) : Bo F T rEq (.bl i) (.bl j) W R := bo_eq rfl (by rw [dec_bl]; exact h)
theorem bo_neB {i j : Bool} (h : R (.bl (!decide (i = j))) W) : Bo F T rNe (.bl i) (.bl j) W R := bo_ne rfl (by rw [dec_bl]; exact h)
theorem ca_int {i : Int} (h : R (.int i) W) : Ca F T (fun xs H Q => (∃ i, xs = [.int i] ∧ Q (.int i) H) ∨ ∃ k, xs = [.bl k] ∧ Q (.int (if k then 1 else 0)) H) [.int i] W R := cl_sc (xs := [.int i]) fun H Q k => .inl ⟨i, rfl, k _ h⟩
theorem ca_intB {b : Bool} (h : R (.int (if b then 1 else 0)) W) : Ca F T (fun xs H Q => (∃ i, xs = [.int i] ∧ Q (.int i) H) ∨ ∃ k, xs = [.bl k] ∧ Q (.int (if k then 1 else 0)) H) [.bl b] W R := cl_sc (xs := [.bl b]) fun H Q k => .inr ⟨b, rfl, k _ h⟩
theorem ca_max2 {i j : Int} (h : R (.int (if j > i then j else i)) W) : Ca F T (fun xs H Q => ∃ i j, xs = [.int i, .int j] ∧ Q (.int (if j > i then j else i)) H) [.int i, .int j] W R := cl_sc (xs := [.int i, .int j]) fun H Q k => ⟨i, j, rfl, k _ h⟩
theorem ca_min2 {i j : Int} (h : R (.int (if j < i then j else i)) W) : Ca F T (fun xs H Q => ∃ i j, xs = [.int i, .int j] ∧ Q (.int (if j < i then j else i)) H) [.int i, .int j] W R := cl_sc (xs := [.int i, .int j]) fun H Q k => ⟨i, j, rfl, k _ h⟩
/-- a chain of comparisons -/
theorem ev_chain {r r' : R2} {tc : TE} (h : Ev F T ta G W fun d1 W1 => Ev F T tb G W1 fun d2 W2 => Bo F T r d1 d2 W2 fun z W3 => ∃ b, z = .bl b ∧ if b = true then Ev F T tc G W3 fun d3 W4 => Bo F T r' d2 d3 W4 R else R (.bl false) W3) : Ev F T (tChain r r' ta tb tc) G W R := fun C H O σ w Q q =>
  h C H O σ w _ fun d1 W1 H1 O1 x h1 n1 k1 => h1 C H1 O1 σ (w.step n1) _ fun d2 W2 H2 O2 y h2 n2 k2 =>
    h2 C H2 O2 n2.dis n2.oc n2.own x y (k1.mono n2.ext) k2 _ fun z W3 H3 O3 v ⟨b, ez, hb⟩ n3 k3 => by
      subst ez
      have k3 : v = .bl b := k3
      refine ⟨b, k3, ?_⟩
      cases b with
      | true => exact hb C H3 O3 σ (((w.step n1).step n2).step n3) _ fun d3 W4 H4 O4 zv h4 n4 k4 => h4 C H4 O4 n4.dis n4.oc n4.own y zv ((k2.mono n3.ext).mono n4.ext) k4 Q fun d W' H' O' v rr n k => q d W' H' O' v rr ((((n1.trans n2).trans n3).trans n4).trans n) k
      | false => exact q _ W3 H3 O3 _ hb ((n1.trans n2).trans n3) rfl
theorem et_chain {r r' : R2} {tc : TE} (h : Ev F T (tChain r r' ta tb tc) G W fun d W1 => ∃ b, d = .bl b ∧ Z b W1) : EvT F T (tTest (tChain r r' ta tb tc)) G W Z := et_test h
theorem if_so {c : Bool} {A B : Prop} (hc : c = true) (h : A) : if c = true then A else B := by rw [if_pos hc]; exact h
theorem if_not {c : Bool} {A B : Prop} (hc : c = false) (h : B) : if c = true then A else B := by rw [if_neg (by rw [hc]; exact Bool.false_ne_true)]; exact h
theorem if_dec {p A B : Prop} [Decidable p] (h1 : p → A) (h2 : ¬ p → B) : if decide p = true then A else B := by
  by_cases h : p
  · exact if_so (decide_eq_true h) (h1 h)
  · exact if_not (decide_eq_false h) (h2 h)
theorem if_bl {c : Bool} {A B : Prop} (h1 : c = true → A) (h2 : c = false → B) : if c = true then A else B := by
  cases c with
  | true => exact if_so rfl (h1 rfl)
  | false => exact if_not rfl (h2 rfl)
/-- slices of lists, in plain data -/
def cutD (xs : List D) (lo hi : Option Int) : List D := (xs.drop (HT.sIx xs.length 0 lo)).take (HT.sIx xs.length xs.length hi - HT.sIx xs.length 0 lo)
theorem DenL.cut {l : List D} {xs : List V} (k : DenL F T H l xs) (lo hi : Option Int) : DenL F T H (cutD l lo hi) (cutV xs lo hi) := by
  unfold cutD cutV
  rw [k.len]
  exact (k.drop _).take _
theorem eo_none {Y : Option Int → Om → Prop} (h : Y none W) : EvO F T tNoPart G W Y := fun C H O σ w Q q => q none W H O h w.nx
theorem eo_some {Y : Option Int → Om → Prop} (h : Ev F T te G W fun d W1 => ∃ i, d = .int i ∧ Y (some i) W1) : EvO F T (tPart te) G W Y := fun C H O σ w Q q =>
  h C H O σ w _ fun d W1 H1 O1 x ⟨i, e, y⟩ n k => by
    subst e
    exact ⟨i, k, q (some i) W1 H1 O1 y n⟩
theorem ev_sl {r : V → Option Int → Option Int → Hp → VK → Prop} {tl th : TO} (h : Ev F T te G W fun d W1 => EvO F T tl G W1 fun lo W2 => EvO F T th G W2 fun hi W3 => Ca F T (fun xs H Q => ∃ x, xs = [x] ∧ r x lo hi H Q) [d] W3 R) : Ev F T (tSl r te tl th) G W R := fun C H O σ w Q q =>
  h C H O σ w _ fun d W1 H1 O1 x h1 n1 k1 => h1 C H1 O1 σ (w.step n1) _ fun lo W2 H2 O2 h2 n2 => h2 C H2 O2 σ ((w.step n1).step n2) _ fun hi W3 H3 O3 h3 n3 => by
    obtain ⟨y, e, hr⟩ := h3 C H3 O3 n3.dis n3.oc n3.own [x] (.one ((k1.mono n2.ext).mono n3.ext)) Q fun d W' H' O' v rr n k => q d W' H' O' v rr (((n1.trans n2).trans n3).trans n) k
    cases e
    exact hr
theorem ca_slL {d : D} {l : List D} {lo hi : Option Int} (hv : Vl W d l) (r : ∀ p, p ∉ akeys W → R (.adr p) ((p, .lst (cutD l lo hi)) :: W)) : Ca F T (fun xs H Q => ∃ x, xs = [x] ∧ rSlL T.K x lo hi H Q) [d] W R := ca_one fun C H O di oc ow x k Q q => by
  obtain ⟨a, xs, e, hs, kl⟩ := hv.sq ow di k
  subst e
  refine ⟨_, rfl, a, xs, rfl, hs, fun p hp => ?_⟩
  obtain ⟨n2, e, np⟩ := (Nx.refl di oc ow).newO (od := .lst (cutD l lo hi)) (o := .lst (cutV xs lo hi)) hp ⟨_, rfl, kl.cut lo hi⟩
  rw [e]
  exact q (.adr p) _ _ _ _ (r p np) n2 rfl
theorem ev_revL (h : Ev F T te G W fun d W1 => ∃ l, Vl W1 d l ∧ ∀ p, p ∉ akeys W1 → R (.adr p) ((p, .lst l.reverse) :: W1)) : Ev F T (tRevL T.K te) G W R := fun C H O σ w Q q =>
  h C H O σ w _ fun d W1 H1 O1 x ⟨l, hv, r⟩ n k => by
    obtain ⟨a, xs, e, hs, kl⟩ := hv.sq n.own n.dis k
    subst e
    refine ⟨a, xs, rfl, hs, fun p hp => ?_⟩
    obtain ⟨n2, e, np⟩ := n.newO (od := .lst l.reverse) (o := .lst xs.reverse) hp ⟨_, rfl, kl.reverse⟩
    rw [e]
    exact q (.adr p) _ _ _ _ (r p np) n2 rfl
/-- membership in a flat sequence -/
theorem bo_in {neg : Bool} {x : V} {d : D} {xs : List V} (hv : Vs W d (xs.map .vl)) (hx : flatV x = true) (ha : xs.all flatV = true) (r : R (.bl (if neg then !inV x xs else inV x xs)) W) : Bo F T (rIn T.K neg) (.vl x) d W R := fun C H O di oc ow x' y hx' hy Q q => by
  have hx' : x' = x := hx'
  subst hx'
  obtain ⟨a, ys, e, hs, kl⟩ := hv.sq ow di hy
  have kl := DenL.vls_inv kl
  subst kl
  exact ⟨a, ys, e, hs, hx, ha, q _ W H O _ r (.refl di oc ow) rfl⟩
end
theorem canLay_ints : ∀ ns : List Int, PyData.canLayAll0 (ns.map .int) = true
  | [] => rfl
  | n :: ns => by
    rw [List.map_cons, PyData.canLayAll0, canLay_ints ns]
    rfl
theorem depth_ints : ∀ ns : List Int, PyData.depthAll (ns.map .int) = 0
  | [] => rfl
  | n :: ns => by
    rw [List.map_cons, PyData.depthAll, depth_ints ns]
    rfl
theorem shaped_ints (ns : List Int) : SeqAt.shaped (.list (ns.map .int)) = true := by
  unfold SeqAt.shaped
  rw [PyData.canLay0, canLay_ints, PyData.depth, depth_ints]
  decide
theorem eqv_nil {ds : List PyData} : (PyData.list ds).eqv (.list []) = ds.isEmpty := by
  cases ds with
  | nil => simp [PyData.eqv, PyData.eqvAll]
  | cons d ds => simp [PyData.eqv, PyData.eqvAll]
theorem vp_ints {W : Om} {d : D} {ns : List Int} (h : Vl W d (ns.map D.int)) : Vp W d (.list (ns.map .int)) := .inr ⟨_, h, pd_lst (pdL_map D.int .int (fun _ => rfl) ns)⟩
theorem vp_nil {W : Om} : Vp W (.lst []) (.list []) := .inl rfl
end N
set_option Elab.async false
set_option linter.all false
set_option maxRecDepth 100000
namespace N
open PySem PySem.Spec PyProof.Rows L2
theorem str_ext {x y : Str} (h : x.cps.toList = y.cps.toList) : x = y := by
  cases x
  cases y
  congr 1
  exact Array.toList_inj.mp h
theorem str_app (x y : Str) : (x ++ y).cps.toList = x.cps.toList ++ y.cps.toList := by
  show (x.cps ++ y.cps).toList = _
  rw [Array.toList_append]
theorem str_len (x : Str) : x.length = x.cps.toList.length := by
  show x.cps.size = _
  rw [Array.length_toList]
def ltS (x y : Str) : Bool := ltCps x.cps.toList y.cps.toList
theorem ltCps_irrefl : ∀ a : List Nat, ltCps a a = false
  | [] => rfl
  | a :: r => by simp [ltCps, ltCps_irrefl r]
theorem ltCps_trans : ∀ {a b c : List Nat}, ltCps a b = true → ltCps b c = true → ltCps a c = true
  | [], [], c, h, _ => by simp [ltCps] at h
  | [], _ :: _, [], _, h => by simp [ltCps] at h
  | [], _ :: _, _ :: _, _, _ => rfl
  | _ :: _, [], _, h, _ => by simp [ltCps] at h
  | _ :: _, _ :: _, [], _, h => by simp [ltCps] at h
  | x :: a, y :: b, z :: c, h1, h2 => by
    simp only [ltCps, Bool.or_eq_true, decide_eq_true_eq, Bool.and_eq_true, beq_iff_eq] at h1 h2 ⊢
    rcases h1 with h1 | ⟨h1, h3⟩ <;> rcases h2 with h2 | ⟨h2, h4⟩
    · exact .inl (by omega)
    · exact .inl (by omega)
    · exact .inl (by omega)
    · exact .inr ⟨by omega, ltCps_trans h3 h4⟩
theorem ltCps_total : ∀ {a b : List Nat}, ltCps a b = false → ltCps b a = false → a = b
  | [], [], _, _ => rfl
  | [], _ :: _, h, _ => by simp [ltCps] at h
  | _ :: _, [], _, h => by simp [ltCps] at h
  | x :: a, y :: b, h1, h2 => by
    simp only [ltCps, Bool.or_eq_false_iff, decide_eq_false_iff_not, Bool.and_eq_false_iff, beq_eq_false_iff_ne] at h1 h2
    have e : x = y := by omega
    subst e
    rw [ltCps_total (h1.2.resolve_left (by simp)) (h2.2.resolve_left (by simp))]
theorem ltS_irrefl (x : Str) : ltS x x = false := ltCps_irrefl _
theorem ltS_trans {x y z : Str} (h : ltS x y = true) (k : ltS y z = true) : ltS x z = true := ltCps_trans h k
theorem ltS_total {x y : Str} (h : ltS x y = false) (k : ltS y x = false) : x = y := str_ext (ltCps_total h k)
theorem ltS_of {x y : Str} (h : ltS y x = false) (ne : x ≠ y) : ltS x y = true := by
  cases e : ltS x y with
  | true => rfl
  | false => exact absurd (ltS_total e h) ne
/-- two strictly ascending lists with the same members are one -/
theorem asc_ext {α : Type} {lt : α → α → Prop} (ir : ∀ a, ¬ lt a a) (tr : ∀ a b c, lt a b → lt b c → lt a c) : ∀ {l m : List α}, l.Pairwise lt → m.Pairwise lt → (∀ x, x ∈ l ↔ x ∈ m) → l = m
  | [], [], _, _, _ => rfl
  | [], b :: m, _, _, h => absurd ((h b).mpr List.mem_cons_self) (by simp)
  | a :: l, [], _, _, h => absurd ((h a).mp List.mem_cons_self) (by simp)
  | a :: l, b :: m, hl, hm, h => by
    rw [List.pairwise_cons] at hl hm
    have e : a = b := by
      rcases List.mem_cons.mp ((h a).mp List.mem_cons_self) with e | e
      · exact e
      · rcases List.mem_cons.mp ((h b).mpr List.mem_cons_self) with e2 | e2
        · exact e2.symm
        · exact absurd (tr _ _ _ (hl.1 _ e2) (hm.1 _ e)) (ir a)
    subst e
    congr 1
    refine asc_ext ir tr hl.2 hm.2 fun x => ⟨fun hx => ?_, fun hx => ?_⟩
    · rcases List.mem_cons.mp ((h x).mp (List.mem_cons_of_mem _ hx)) with e | e
      · subst e
        exact absurd (hl.1 _ hx) (ir x)
      · exact e
    · rcases List.mem_cons.mp ((h x).mpr (List.mem_cons_of_mem _ hx)) with e | e
      · subst e
        exact absurd (hm.1 _ hx) (ir x)
      · exact e
def insN (n : Nat) : List Nat → List Nat
  | [] => [n]
  | m :: r => if n = m then m :: r else if n < m then n :: m :: r else m :: insN n r
def unite (x y : Str) : Str := if x = y then x else ⟨((x.cps.toList ++ y.cps.toList).foldr insN []).toArray⟩
namespace Fm
def kind : Fm → Str
  | .at _ => "atom"
  | .no => "no"
  | .imp _ _ => "if"
  | .all _ => "all"
def many : Fm → Nat
  | .at _ => 1
  | .no => 1
  | .imp a b => 1 + a.many + b.many
  | .all a => 1 + a.many
def deep : Fm → Nat
  | .at _ => 0
  | .no => 0
  | .imp a b => max a.deep b.deep
  | .all a => 1 + a.deep
def atoms : Fm → Str
  | .at c => ⟨#[c]⟩
  | .no => ""
  | .imp a b => unite a.atoms b.atoms
  | .all a => a.atoms
/-- the atoms outside of all all-parts -/
def outer : Fm → Str
  | .at c => ⟨#[c]⟩
  | .no => ""
  | .imp a b => unite a.outer b.outer
  | .all _ => ""
def spell : Fm → Str
  | .at c => ⟨#[c]⟩
  | .no => "no"
  | .imp a b => "(" ++ a.spell ++ " > " ++ b.spell ++ ")"
  | .all a => "all " ++ a.spell
def ins (g : Fm) : List Fm → List Fm
  | [] => [g]
  | h :: r => if g = h then h :: r else if ltS g.spell h.spell then g :: h :: r else h :: ins g r
def merge (xs ys : List Fm) : List Fm := if xs = [] then ys else if ys = [] then xs else (xs ++ ys).foldr ins []
def alls : Fm → List Fm
  | .at _ => []
  | .no => []
  | .imp a b => merge a.alls b.alls
  | .all a => merge a.alls [.all a]
/-- the length of the text -/
def sz : Fm → Nat
  | .at _ => 1
  | .no => 2
  | .imp a b => 5 + a.sz + b.sz
  | .all a => 4 + a.sz
/-- no atom in it -/
def bare : Fm → Prop
  | .at _ => False
  | .no => True
  | .imp a b => a.bare ∧ b.bare
  | .all a => a.bare
def ltF (f g : Fm) : Prop := ltS f.spell g.spell = true
def cs (f : Fm) : List Nat := f.spell.cps.toList
theorem cs_imp (a b : Fm) : cs (.imp a b) = 40 :: (a.cs ++ (32 :: 62 :: 32 :: (b.cs ++ [41]))) := by
  have h1 : ("(" : Str).cps.toList = [40] := rfl
  have h2 : (" > " : Str).cps.toList = [32, 62, 32] := rfl
  have h3 : (")" : Str).cps.toList = [41] := rfl
  simp [cs, spell, str_app, h1, h2, h3]
theorem cs_all (a : Fm) : cs (.all a) = 97 :: 108 :: 108 :: 32 :: a.cs := by
  have h1 : ("all " : Str).cps.toList = [97, 108, 108, 32] := rfl
  simp [cs, spell, str_app, h1]
theorem cs_no : cs .no = [110, 111] := rfl
theorem cs_at (c : Nat) : cs (.at c) = [c] := rfl
/-- behind a formula stands nothing, a blank or a bracket -/
def stop (r : List Nat) : Prop := ∀ c t, r = c :: t → c = 32 ∨ c = 41
/-- letters -/
def okL : Fm → Prop
  | .at c => (65 ≤ c ∧ c ≤ 90) ∨ (97 ≤ c ∧ c ≤ 122)
  | .no => True
  | .imp a b => a.okL ∧ b.okL
  | .all a => a.okL
theorem cs_inj : ∀ (f g : Fm), f.okL → g.okL → ∀ r s : List Nat, stop r → stop s → f.cs ++ r = g.cs ++ s → f = g ∧ r = s
  | .at c, .at d, _, _, r, s, _, _, h => by
    rw [cs_at, cs_at] at h
    injection h with h1 h2
    exact ⟨by rw [h1], h2⟩
  | .at c, .no, _, _, r, s, hr, _, h => by
    rw [cs_at, cs_no] at h
    injection h with h1 h2
    rcases hr 111 s h2 with e | e <;> cases e
  | .at c, .imp a b, hc, _, r, s, hr, _, h => by
    rw [cs_at, cs_imp] at h
    injection h with h1 h2
    simp only [okL] at hc
    omega
  | .at c, .all a, _, _, r, s, hr, _, h => by
    rw [cs_at, cs_all] at h
    injection h with h1 h2
    rcases hr _ _ h2 with e | e <;> cases e
  | .no, .at d, _, _, r, s, _, hs, h => by
    rw [cs_at, cs_no] at h
    injection h with h1 h2
    rcases hs 111 r h2.symm with e | e <;> cases e
  | .no, .no, _, _, r, s, _, _, h => by
    rw [cs_no] at h
    simp at h
    exact ⟨rfl, h⟩
  | .no, .imp a b, _, _, r, s, _, _, h => by
    rw [cs_no, cs_imp] at h
    injection h with h1 h2
    cases h1
  | .no, .all a, _, _, r, s, _, _, h => by
    rw [cs_no, cs_all] at h
    injection h with h1 h2
    cases h1
  | .imp a b, .at d, _, hd, r, s, _, hs, h => by
    rw [cs_at, cs_imp] at h
    injection h with h1 h2
    simp only [okL] at hd
    omega
  | .imp a b, .no, _, _, r, s, _, _, h => by
    rw [cs_no, cs_imp] at h
    injection h with h1 h2
    cases h1
  | .imp a b, .all c, _, _, r, s, _, _, h => by
    rw [cs_all, cs_imp] at h
    injection h with h1 h2
    cases h1
  | .all a, .at d, _, _, r, s, _, hs, h => by
    rw [cs_at, cs_all] at h
    injection h with h1 h2
    rcases hs _ _ h2.symm with e | e <;> cases e
  | .all a, .no, _, _, r, s, _, _, h => by
    rw [cs_no, cs_all] at h
    injection h with h1 h2
    cases h1
  | .all a, .imp b c, _, _, r, s, _, _, h => by
    rw [cs_all, cs_imp] at h
    injection h with h1 h2
    cases h1
  | .all a, .all b, ha, hb, r, s, hr, hs, h => by
    rw [cs_all, cs_all] at h
    simp only [List.cons_append, List.cons.injEq, true_and] at h
    obtain ⟨e, e2⟩ := cs_inj a b ha hb r s hr hs h
    exact ⟨by rw [e], e2⟩
  | .imp a b, .imp c d, ha, hb, r, s, hr, hs, h => by
    rw [cs_imp, cs_imp] at h
    simp only [List.cons_append, List.append_assoc, List.cons.injEq, true_and] at h
    obtain ⟨e, e2⟩ := cs_inj a c ha.1 hb.1 _ _ (by intro c t e; injection e with e; exact .inl e.symm) (by intro c t e; injection e with e; exact .inl e.symm) h
    subst e
    simp only [List.cons.injEq, true_and] at e2
    obtain ⟨e3, e4⟩ := cs_inj b d ha.2 hb.2 _ _ (by intro c t e; injection e with e; exact .inr e.symm) (by intro c t e; injection e with e; exact .inr e.symm) e2
    subst e3
    simp at e4
    exact ⟨rfl, e4⟩
theorem spell_inj {f g : Fm} (hf : f.okL) (hg : g.okL) (h : f.spell = g.spell) : f = g := by
  refine (cs_inj f g hf hg [] [] (by intro c t e; cases e) (by intro c t e; cases e) ?_).1
  simp [cs, h]
def asc (l : List Fm) : Prop := l.Pairwise ltF
theorem ltF_irrefl (f : Fm) : ¬ ltF f f := by
  unfold ltF
  rw [ltS_irrefl]
  exact Bool.false_ne_true
theorem ltF_trans (f g h : Fm) : ltF f g → ltF g h → ltF f h := fun a b => ltS_trans a b
theorem mem_ins {g x : Fm} : ∀ {l : List Fm}, x ∈ ins g l ↔ x = g ∨ x ∈ l
  | [] => by simp [ins]
  | h :: r => by
    unfold ins
    split
    · rename_i e
      subst e
      simp
    · split
      · simp
      · rw [List.mem_cons, mem_ins, List.mem_cons]
        constructor
        · rintro (h | h | h)
          · exact .inr (.inl h)
          · exact .inl h
          · exact .inr (.inr h)
        · rintro (h | h | h)
          · exact .inr (.inl h)
          · exact .inl h
          · exact .inr (.inr h)
theorem asc_ins {g : Fm} (hg : g.okL) : ∀ {l : List Fm}, asc l → (∀ x ∈ l, okL x) → asc (ins g l)
  | [], _, _ => by simp [ins, asc]
  | h :: r, hl, ho => by
    unfold asc at hl
    rw [List.pairwise_cons] at hl
    unfold ins
    split
    · exact List.pairwise_cons.mpr hl
    · rename_i ne
      split
      · rename_i lt
        refine List.pairwise_cons.mpr ⟨fun y hy => ?_, List.pairwise_cons.mpr hl⟩
        rcases List.mem_cons.mp hy with e | e
        · subst e
          exact lt
        · exact ltF_trans _ _ _ lt (hl.1 y e)
      · rename_i nlt
        refine List.pairwise_cons.mpr ⟨fun y hy => ?_, asc_ins hg hl.2 fun x hx => ho x (List.mem_cons_of_mem _ hx)⟩
        rcases mem_ins.mp hy with e | e
        · subst e
          refine ltS_of (by simpa using nlt) fun e => ne ?_
          exact (spell_inj (ho _ List.mem_cons_self) hg e).symm
        · exact hl.1 y e
theorem mem_fold {x : Fm} : ∀ {l : List Fm}, x ∈ l.foldr ins [] ↔ x ∈ l
  | [] => by simp
  | g :: l => by rw [List.foldr_cons, mem_ins, mem_fold, List.mem_cons]
theorem asc_fold : ∀ {l : List Fm}, (∀ x ∈ l, okL x) → asc (l.foldr ins [])
  | [], _ => List.Pairwise.nil
  | g :: l, h => asc_ins (h g List.mem_cons_self) (asc_fold fun x hx => h x (List.mem_cons_of_mem _ hx)) fun x hx => h x (List.mem_cons_of_mem _ (mem_fold.mp hx))
theorem mem_merge {x : Fm} {l m : List Fm} : x ∈ merge l m ↔ x ∈ l ∨ x ∈ m := by
  unfold merge
  split
  · rename_i e
    subst e
    simp
  · split
    · rename_i e
      subst e
      simp
    · rw [mem_fold, List.mem_append]
theorem asc_merge {l m : List Fm} (hl : asc l) (hm : asc m) (ol : ∀ x ∈ l, okL x) (om : ∀ x ∈ m, okL x) : asc (merge l m) := by
  unfold merge
  split
  · exact hm
  · split
    · exact hl
    · refine asc_fold fun x hx => ?_
      rcases List.mem_append.mp hx with h | h
      · exact ol x h
      · exact om x h
theorem alls_sub : ∀ {f : Fm}, f.okL → (∀ x ∈ f.alls, okL x) ∧ asc f.alls
  | .at _, _ => ⟨fun _ h => by simp [alls] at h, List.Pairwise.nil⟩
  | .no, _ => ⟨fun _ h => by simp [alls] at h, List.Pairwise.nil⟩
  | .imp a b, h => by
    obtain ⟨h1, h2⟩ := alls_sub h.1
    obtain ⟨h3, h4⟩ := alls_sub h.2
    exact ⟨fun x hx => (mem_merge.mp hx).elim (h1 x) (h3 x), asc_merge h2 h4 h1 h3⟩
  | .all a, h => by
    obtain ⟨h1, h2⟩ := alls_sub (f := a) h
    have h3 : ∀ x ∈ [Fm.all a], okL x := fun x hx => by
      rw [List.mem_singleton] at hx
      subst hx
      exact h
    exact ⟨fun x hx => (mem_merge.mp hx).elim (h1 x) (h3 x), asc_merge h2 (by simp [asc]) h1 h3⟩
end Fm
/-- the kit of formulas -/
@[reducible] def FK : FmKit where
  kind := Fm.kind
  many f := (f.many : Nat)
  deep f := (f.deep : Nat)
  atoms := Fm.atoms
  bare := Fm.outer
  spell := Fm.spell
  alls := Fm.alls
end N
set_option Elab.async false
set_option linter.all false
set_option maxRecDepth 100000
namespace N
open PySem PySem.Spec PyProof.Rows L2
open C8 (InsC)
theorem len_ok {n : Nat} (h : n ≤ 1000) : n ≤ sizeLine := by
  have := sizeLine_eq
  omega
section
variable {F : FmKit} {T : Kx} {C H H' O O' : Hp} {G : Gm} {W W' : Om} {σ : L2.St} {a p : Addr} {d : D} {l : List D}
  {te ta tb : TE} {t u : TT} {R R' : D → Om → Prop} {Z : Bool → Om → Prop} {tr tk : TA} {ts tz : TS}
def TyD (F : FmKit) (T : Kx) (W : Om) (d : D) (t : Value) : Prop := ∀ (C H O : Hp), Dis O H → Ow F T H C O W → ∀ x, Den F T H d x → TyX T.K (ov O H) x t
theorem ca_isi {c : V} {t u : Value} {b : Bool} (hc : ClsV c u) (ht : TyD F T W d t) (e : PySem.W.kitOne T.K t u = some b) (r : R (.bl b) W) : Ca F T (rIsi T.K) [d, .vl c] W R := ca_two fun C H O di oc ow x y hx hy Q q => by
  have hy : y = c := hy
  subst hy
  exact ⟨x, y, t, u, b, rfl, hc, ht C H O di ow x hx, e, q _ W H O _ r (.refl di oc ow) rfl⟩
theorem tyd_str {s : Str} : TyD F T W (.str s) (.type "str") := fun C H O di ow x k => by
  have k : x = .str s := k
  subst k
  exact .base (.str s)
theorem tyd_int {i : Int} : TyD F T W (.int i) (.type "int") := fun C H O di ow x k => by
  have k : x = .int i := k
  subst k
  exact .base (.int i)
theorem tyd_ins {c : Nat} {ns : List Str} (i : Inst F W d c ns l) (z : InsC T.K (T.cl c)) : TyD F T W d (.ref (T.cl c)) := fun C H O di ow x k => by
  obtain ⟨a, dx, fs, e, h1, h2, h3⟩ := i.at di ow k
  subst e
  exact .base (.ins h1 z.cl z.ha z.hn z.htk z.hm)
theorem isi_str {R : D → Om → Prop} {s : Str} (r : R (.bl true) W) : Ca F T (rIsi T.K) [.str s, .vl (.ty "str")] W R := ca_isi (.ty "str") tyd_str (by unfold PySem.W.kitOne; rfl) r
theorem isi_ins {c : Nat} {ns : List Str} (i : Inst F W d c ns l) (z : InsC T.K (T.cl c)) (r : R (.bl true) W) : Ca F T (rIsi T.K) [d, .adr (T.cl c)] W R := ca_isi (.own _) (tyd_ins i z) z.me r
/-- the parts of an f-string -/
def EvJ (F : FmKit) (T : Kx) : List TE → Str → Gm → Om → (Str → Om → Prop) → Prop
  | [], acc, _, W, Y => Y acc W
  | te :: ts, acc, G, W, Y => Ev F T te G W fun d W1 => ∃ y : Str, d = .str y ∧ (acc ++ y).length ≤ sizeLine ∧ EvJ F T ts (acc ++ y) G W1 Y
theorem EvJ.run {Y : Str → Om → Prop} : ∀ {ts : List TE} {acc : Str} {W : Om} {H O : Hp}, EvJ F T ts acc G W Y → Wd F T C G W H O σ → ∀ Q : Str → Hp → Prop, (∀ z W' H' O', Y z W' → Nx F T C W' H H' O' → Q z (ov O' H')) → tJs ts acc σ (ov O H) Q
  | [], acc, W, H, O, h, w, Q, q => q acc W H O h w.nx
  | te :: ts, acc, W, H, O, h, w, Q, q => h C H O σ w _ fun d W1 H1 O1 x ⟨y, e, hl, r⟩ n k => by
    subst e
    have k : x = .str y := k
    exact ⟨y, k, hl, EvJ.run r (w.step n) Q fun z W' H' O' yy n2 => q z W' H' O' yy (n.trans n2)⟩
end
end N
set_option Elab.async false
set_option linter.all false
set_option maxRecDepth 100000
set_option maxHeartbeats 4000000
namespace N
open PySem PySem.Spec PyProof.Rows L2
def txOf (e : Int × Value) : Str := match e.2 with
  | .str k _ => k
  | _ => Str.empty
def GoodT (w : World) (e : Int × Value) : Prop := ∃ k tk, e.2 = Value.str k tk ∧ e.1 = hashStr w k
/-- the set of texts at a -/
def SetT (w : World) (h : Heap) (a : Addr) (M : Str → Bool) (n : Nat) : Prop :=
  ∃ o es ep t, h.get? a = some o ∧ o.ExactSet ∧ o.data = .set es ep t ∧ (∀ e ∈ es.toList, GoodT w e) ∧ (es.toList.map txOf).Nodup ∧ (∀ k, M k = true ↔ k ∈ es.toList.map txOf) ∧
    es.size < scanBound ∧ t.fits es.size = true ∧ es.size = n ∧ Ris t.place.toList ∧ (w.params.followText "set-order" = true ∨ t.led = true)
section
variable {P : Program} {w : World} {h h' : Heap} {a : Addr} {M : Str → Bool} {n : Nat}
theorem SetT.at (R : SetT w h a M n) (k : ∀ o, h.get? a = some o → h'.get? a = some o) : SetT w h' a M n := let ⟨o, es, ep, t, ho, r⟩ := R; ⟨o, es, ep, t, k o ho, r⟩
end
end N
set_option Elab.async false
set_option linter.all false
set_option maxRecDepth 100000
set_option maxHeartbeats 4000000
set_option Elab.async false
set_option linter.all false
set_option maxRecDepth 100000
set_option maxHeartbeats 4000000
set_option Elab.async false
set_option linter.all false
set_option maxRecDepth 100000
set_option maxHeartbeats 4000000
namespace N
open PySem PySem.Spec PyProof.Rows L2
def sg (c : Nat) : Str := ⟨#[c]⟩
theorem insN_mem {c x : Nat} : ∀ {l : List Nat}, x ∈ insN c l ↔ x = c ∨ x ∈ l
  | [] => by simp [insN]
  | m :: r => by
    unfold insN
    split
    · rename_i e
      subst e
      simp
    · split
      · simp
      · rw [List.mem_cons, insN_mem, List.mem_cons]
        constructor
        · rintro (h | h | h)
          · exact .inr (.inl h)
          · exact .inl h
          · exact .inr (.inr h)
        · rintro (h | h | h)
          · exact .inr (.inl h)
          · exact .inl h
          · exact .inr (.inr h)
def ascN (l : List Nat) : List Nat := l.foldr insN []
theorem mem_ascN {x : Nat} : ∀ {l : List Nat}, x ∈ ascN l ↔ x ∈ l
  | [] => by simp [ascN]
  | k :: l => by
    show x ∈ insN k (ascN l) ↔ _
    rw [insN_mem, mem_ascN, List.mem_cons]
theorem asc_insN {k : Nat} : ∀ {l : List Nat}, l.Pairwise (· < ·) → (insN k l).Pairwise (· < ·)
  | [], _ => by simp [insN]
  | m :: r, h => by
    obtain ⟨h1, h2⟩ := List.pairwise_cons.mp h
    unfold insN
    split
    · exact h
    · rename_i ne
      split
      · rename_i lt
        refine List.pairwise_cons.mpr ⟨fun y hy => ?_, h⟩
        rcases List.mem_cons.mp hy with e | e
        · rw [e]
          exact lt
        · exact Nat.lt_trans lt (h1 y e)
      · rename_i nl
        refine List.pairwise_cons.mpr ⟨fun y hy => ?_, asc_insN h2⟩
        rcases insN_mem.mp hy with e | e
        · rw [e]
          omega
        · exact h1 y e
theorem asc_ascN : ∀ l : List Nat, (ascN l).Pairwise (· < ·)
  | [] => List.Pairwise.nil
  | k :: l => asc_insN (asc_ascN l)
theorem ascN_ext {l m : List Nat} (h : l.Pairwise (· < ·)) (k : m.Pairwise (· < ·)) (e : ∀ x, x ∈ l ↔ x ∈ m) : l = m := asc_ext (fun a => Nat.lt_irrefl a) (fun _ _ _ a b => Nat.lt_trans a b) h k e
/-- the letters of a text -/
abbrev lets (x : Str) : List Nat := x.cps.toList
end N
set_option Elab.async false
set_option linter.all false
set_option maxRecDepth 100000
namespace N
open PySem PySem.Spec PyProof.Rows L2
open C8 (InsC)
/-- the class Formula as the top has made it -/
structure CZ (K : PySem.W.Frag) (C : Addr) (ns : List Str) : Prop where
  cls : Cls K C
  nos : ∀ n ∈ ns, NoAttr K C n
  ins : InsC K C
  sf : PySem.W.selfFirst K C = true
  ist : PySem.W.kitOne K (.type "str") (.ref C) = some false
abbrev FZ (K : PySem.W.Frag) (C : Addr) : Prop := CZ K C fmNames
inductive FldF : Str → Fm → D → Prop
  | kind (f : Fm) : FldF "kind" f (.str f.kind)
  | parts (f : Fm) : FldF "parts" f (.tup (partsD f))
  | many (f : Fm) : FldF "many" f (.int (f.many : Nat))
  | deep (f : Fm) : FldF "deepest" f (.int (f.deep : Nat))
  | atoms (f : Fm) : FldF "atoms" f (.str f.atoms)
  | bare (f : Fm) : FldF "bare" f (.str f.outer)
  | spell (f : Fm) : FldF "spelled" f (.str f.spell)
  | alls (f : Fm) : FldF "alls_known" f (.tup (f.alls.map .fm))
theorem FldF.look {n : Str} {f : Fm} {z : D} (h : FldF n f z) : n ∈ fmNames ∧ (fmNames.zip (fmVals FK f)).lookup n = some z := by
  cases h <;> exact ⟨by decide +kernel, rfl⟩
section
variable {T : Kx} {C H H' O O' : Hp} {G : Gm} {W W' : Om} {σ : L2.St} {a p : Addr} {d : D} {l : List D} {ta : TE} {R : D → Om → Prop}
theorem ev_fmF {n : Str} (zf : FZ T.K (T.cl 0)) (h : Ev FK T ta G W fun d W1 => ∃ f z, d = .fm f ∧ FldF n f z ∧ R z W1) : Ev FK T (tFld T.K ta n) G W R :=
  ev_fld (h.imp fun d W1 ⟨f, z, e, k, r⟩ => by
    subst e
    exact ⟨0, fmNames, fmVals FK f, z, .fm f, zf.cls, zf.nos n k.look.1, k.look.2, r⟩)
/-- something with a text -/
def Spl (W : Om) (d : D) (g : Fm) : Prop := ∃ ns l, Inst FK W d 0 ns l ∧ (ns.zip l).lookup ("spelled" : Str) = some (.str g.spell)
theorem Spl.up {W2 : Om} {g : Fm} (h : Spl W d g) (s : ∀ x ∈ W, x ∈ W2) : Spl W2 d g := by
  obtain ⟨ns, l, i, e⟩ := h
  refine ⟨ns, l, ?_, e⟩
  cases i with
  | fm f => exact .fm f
  | obj c ns l => exact .obj _ _ _
  | own a c ns l m => exact .own _ _ _ _ (s _ m)
end
namespace Fm
theorem nodup_asc {l : List Fm} (h : asc l) : l.Nodup := h.imp fun {a b} k e => by
  subst e
  exact ltF_irrefl _ k
theorem len_le {l m : List Fm} (h : l.Nodup) (s : ∀ x ∈ l, x ∈ m) : l.length ≤ m.length := by
  induction l generalizing m with
  | nil => exact Nat.zero_le _
  | cons a l ih =>
    rw [List.nodup_cons] at h
    obtain ⟨p, q, e⟩ := List.append_of_mem (s a List.mem_cons_self)
    subst e
    have := ih (m := p ++ q) h.2 fun x hx => by
      have h1 := s x (List.mem_cons_of_mem _ hx)
      rw [List.mem_append, List.mem_cons] at h1
      rw [List.mem_append]
      rcases h1 with h1 | h1 | h1
      · exact .inl h1
      · subst h1
        exact absurd hx h.1
      · exact .inr h1
    simp at this ⊢
    omega
/-- small enough for the walk -/
structure okF (f : Fm) : Prop where
  ok : f.okL
  sz : f.sz ≤ 1000000
  alls : f.alls.length < 64
theorem okF.l {a b : Fm} (h : okF (.imp a b)) : okF a := ⟨h.ok.1, by have := h.sz; unfold Fm.sz at this; omega, Nat.lt_of_le_of_lt (len_le (nodup_asc (alls_sub h.ok.1).2) fun x hx => mem_merge.mpr (.inl hx)) h.alls⟩
theorem okF.r {a b : Fm} (h : okF (.imp a b)) : okF b := ⟨h.ok.2, by have := h.sz; unfold Fm.sz at this; omega, Nat.lt_of_le_of_lt (len_le (nodup_asc (alls_sub h.ok.2).2) fun x hx => mem_merge.mpr (.inr hx)) h.alls⟩
theorem okF.a {a : Fm} (h : okF (.all a)) : okF a := ⟨h.ok, by have := h.sz; unfold Fm.sz at this; omega, Nat.lt_of_le_of_lt (len_le (nodup_asc (alls_sub (f := a) h.ok).2) fun x hx => mem_merge.mpr (.inl hx)) h.alls⟩
end Fm
def S_init : FS := fun ds W post => ∃ (x : Addr) (f : Fm), ds = [.adr x, .str f.kind, .tup (partsD f)] ∧ W = [(x, .ins 0 [] [])] ∧ f.okF ∧
  ∀ al, AllsD x f al f.alls → post .non [(x, .ins 0 fmNames [.str f.kind, .tup (partsD f), .int (f.many : Nat), .int (f.deep : Nat), .str f.atoms, .str f.outer, .str f.spell, .tup al])]
end N
set_option Elab.async false
set_option linter.all false
set_option maxRecDepth 100000
namespace N
open PySem PySem.Spec PyProof.Rows L2
theorem relV_ref (a : Addr) : RelV (.ref a) (.ref a) := rfl
theorem relV_ty (s : String) : RelV (.ty s) (.type s) := rfl
def tIfT (tc ta tb : TT) : TT := fun σ H Q => tc σ H fun c H1 => if c = true then ta σ H1 Q else tb σ H1 Q
theorem et_ifE {F : FmKit} {T : Kx} {tc ta tb : TT} {G : Gm} {W : Om} {S : Bool → Om → Prop} (h : EvT F T tc G W fun c W1 => if c = true then EvT F T ta G W1 S else EvT F T tb G W1 S) : EvT F T (tIfT tc ta tb) G W S := fun C H O σ w Q q =>
  h C H O σ w _ fun c W1 H1 O1 s n => by
    cases c with
    | true => exact s C H1 O1 σ (w.step n) _ fun b W2 H2 O2 s2 n2 => q b W2 H2 O2 s2 (n.trans n2)
    | false => exact s C H1 O1 σ (w.step n) _ fun b W2 H2 O2 s2 n2 => q b W2 H2 O2 s2 (n.trans n2)
end N
set_option Elab.async false
set_option linter.all false
set_option maxRecDepth 100000
namespace L2
open PySem PySem.Spec PyProof.Rows
end L2
namespace N
open PySem L2
theorem ev_neg {F : FmKit} {T : Kx} {G : Gm} {W : Om} {R : D → Om → Prop} {ta : TE} {g : Int → V} (h : Ev F T ta G W fun d W1 => ∃ i : Int, d = .int i ∧ R (.vl (g i)) W1) : Ev F T (tUn (rU g) ta) G W R :=
  ev_un (h.imp fun d W1 ⟨i, e, r⟩ => by
    subst e
    exact cl_sc (xs := [.int i]) fun H Q k => ⟨.int i, rfl, i, rfl, k _ r⟩)
end N
set_option Elab.async false
set_option linter.all false
set_option maxRecDepth 100000
set_option maxHeartbeats 4000000
set_option Elab.async false
set_option linter.all false
set_option maxRecDepth 100000
namespace N
open PySem PySem.Spec PyProof.Rows L2
open C8 (InsC Cal)
section
variable {T : Kx} {C H H' O O' : Hp} {G : Gm} {W W' : Om} {σ : L2.St} {a p : Addr} {d : D} {l : List D} {ta : TE} {tr : TA} {R : D → Om → Prop} {S : FS} {E : XK}
/-- Formula(kind, ..) -/
theorem ev_mkF (h : EvA FK T tr G W fun ds W1 => ∃ f : Fm, ds = .str f.kind :: partsD f ∧ f.okF ∧ R (.fm f) W1) : Ev FK T (StX.tMakeR (T.cl 0) (spN FK T (starS 2 S_init)) E tr) G W R :=
  ev_fz (ev_makeR (fun C H O σ w Q q => h C H O σ w Q fun ds W1 H1 O1 vs ⟨f, e, hf, r⟩ n k => q ds W1 H1 O1 vs (fun x hx => by
    subst e
    refine ⟨[(x, .ins 0 [] [])], W1, List.Perm.refl _, by simp, ?_, x, f, rfl, rfl, hf, fun al ha => ⟨rfl, x, _, W1, .fm f, rfl, List.Perm.refl _, .fm f al ha, r⟩⟩
    have : (partsD f).length ≤ 2 := by cases f <;> simp [partsD]
    simp
    omega) n k))
theorem ev_inv (h : Ev FK T ta G W fun d W1 => ∃ f, d = .fm f ∧ Hand S [.fm f] W1 R) : Ev FK T (tUn (rOwn1 (T.cl 0) (spN FK T S) E) ta) G W R :=
  ev_un (h.imp fun d W1 ⟨f, e, hh⟩ => by
    subst e
    exact ca_own1 (.fm f) hh)
theorem ca_strF {f : Fm} (h : Hand S [.fm f] W fun d' W' => (∃ z, d' = .str z) ∧ R d' W') : Ca FK T (rStrO (T.cl 0) (spN FK T S)) [.fm f] W R := ca_strO (.fm f) h
theorem ev_prpF (h : Ev FK T ta G W fun d W1 => ∃ f, d = .fm f ∧ Hand S [.fm f] W1 R) : Ev FK T (tProp (T.cl 0) (spN FK T S) [] E ta) G W R :=
  ev_prop (h.imp fun d W1 ⟨f, e, hh⟩ => by
    subst e
    exact ⟨_, _, .fm f, hh⟩)
end
end N
set_option Elab.async false
set_option linter.all false
set_option maxRecDepth 100000
namespace N
open PySem PySem.Spec PyProof.Rows L2
def rMulS : R2 := fun x y H Q => ∃ (s : Str) (i : Int), x = .str s ∧ y = .int i ∧ s.length ≤ 16 ∧ 0 ≤ i ∧ i ≤ 1048576 ∧ Q (.str (Txt.mul s i)) H
theorem op_mul_str {X : Cx} : OpR X (binaryOp .Mult) rMulS := by
  intro pins s σ H x y v u Q I rx ry h
  obtain ⟨z, i, rfl, rfl, h1, h2, h3, q⟩ := h
  obtain ⟨t, rfl⟩ := rx
  obtain ⟨t2, rfl⟩ := ry
  exact PySem.SB.mul (mulOk_of 16 1048576 (by omega) (by omega) (by omega) (by decide) (by decide)) fun t3 k => ⟨.str (Txt.mul z i), H, I.tok _, ⟨t3, rfl⟩, q⟩
section
variable {F : FmKit} {T : Kx} {C H H' O O' : Hp} {G : Gm} {W W' : Om} {R : D → Om → Prop} {d : D}
theorem bo_mulS {x : Str} {n : Nat} (hl : n ≤ 1048576) (r : R (.str (Txt.mul x (n : Int))) W) (hx : x.length ≤ 16 := by decide) : Bo F T rMulS (.str x) (.int (n : Nat)) W R := op_sc fun H Q k => ⟨x, n, rfl, rfl, hx, by omega, by omega, k _ r⟩
end
end N
set_option Elab.async false
set_option linter.all false
set_option maxRecDepth 100000
namespace N
open PySem PySem.Spec PyProof.Rows L2
open C8 (Cal)
structure Ok1 (k n : Nat) (d : PyData) : Prop where
  lv : PyData.leavesShort 13 d = true
  sh : d.showable = true
  nd : d.hasDict = false
  dp : d.depth ≤ k
  wt : d.weight ≤ n
theorem Ok1.up {k n k' n' : Nat} {d : PyData} (h : Ok1 k n d) (hk : k ≤ k') (hn : n ≤ n') : Ok1 k' n' d := ⟨h.lv, h.sh, h.nd, Nat.le_trans h.dp hk, Nat.le_trans h.wt hn⟩
theorem Ok1.shw {k n : Nat} {d : PyData} (h : Ok1 k n d) (hk : k ≤ 30) (hn : n ≤ 100000) : Shw d := ⟨h.sh, h.nd, Nat.le_trans h.dp hk, by
  have h1 := PyData.shown_le 13 (by decide) d h.lv
  have h2 := h.wt
  have := sizeLine_eq
  omega⟩
/-- data one behind the other -/
structure OkL (k n : Nat) (l : List PyData) : Prop where
  lv : PyData.leavesShortAll 13 l = true
  sh : PyData.showableAll l = true
  nd : PyData.hasDictAll l = false
  dp : PyData.depthAll l ≤ k
  wt : PyData.weightAll l ≤ n
theorem OkL.lst {k n : Nat} {l : List PyData} (h : OkL k n l) : Ok1 (k + 1) n (.list l) := by
  refine ⟨by simp [PyData.leavesShort, h.lv], by simp [PyData.showable, h.sh], by simp [PyData.hasDict, h.nd], ?_, ?_⟩
  · have := h.dp
    simp only [PyData.depth]
    omega
  · have := h.wt
    simp only [PyData.weight]
    omega
theorem OkL.tup {k n : Nat} {l : List PyData} (h : OkL k n l) : Ok1 (k + 1) n (.tuple l) := by
  refine ⟨by simp [PyData.leavesShort, h.lv], by simp [PyData.showable, h.sh], by simp [PyData.hasDict, h.nd], ?_, ?_⟩
  · have := h.dp
    simp only [PyData.depth]
    omega
  · have := h.wt
    simp only [PyData.weight]
    omega
theorem OkL.up {k n k' n' : Nat} {l : List PyData} (h : OkL k n l) (hk : k ≤ k') (hn : n ≤ n') : OkL k' n' l := ⟨h.lv, h.sh, h.nd, Nat.le_trans h.dp hk, Nat.le_trans h.wt hn⟩
section
variable {F : FmKit} {T : Kx} {C H H' O O' : Hp} {G : Gm} {W W' : Om} {R : D → Om → Prop} {d e : D} {l m : List D} {te : TE} {t : TT}
theorem ei_imp {wi : TI} {Y Z : List D → Om → Prop} (h : EvI F T wi G W Y) (i : ∀ l W', Y l W' → Z l W') : EvI F T wi G W Z := fun C H O σ w Q q => h C H O σ w Q fun J ds W' H' O' y => q J ds W' H' O' (i _ _ y)
/-- list, tuple or text by a place -/
theorem bo_ixSq {i : Int} {z : D} (hv : Vs W d l) (hi : atI l i = some z) (r : R z W) : Bo F T (rIx T.K) d (.int i) W R := fun C H O di oc ow x y hx hy Q q => by
  obtain ⟨a, xs, e, hs, kl⟩ := hv.sq ow di hx
  have hy : y = .int i := hy
  obtain ⟨v, ev, kv⟩ := kl.atI hi
  subst e hy
  rcases hs with hs | hs
  · exact .inl ⟨a, xs, i, v, rfl, rfl, hs, ev, q z W H O v r (.refl di oc ow) kv⟩
  · exact .inr (.inl ⟨a, xs, i, v, rfl, rfl, hs, ev, q z W H O v r (.refl di oc ow) kv⟩)
theorem bo_ixSqS {i : Int} {x : Str} {c : Nat} (hl : x.length ≤ sizeLine) (hi : atI (lets x) i = some c) (r : R (.str (sg c)) W) : Bo F T (rIx T.K) (.str x) (.int i) W R := op_sc fun H Q k => .inr (.inr ⟨x, i, c, rfl, rfl, hl, hi, k _ r⟩)
/-- lists joined, frozen -/
theorem bo_cat (h1 : Vt W d l) (h2 : Vt W e m) (hl : l.length + m.length ≤ sizeLine) (r : R (.lst (l ++ m)) W) : Bo F T rCat d e W R := fun C H O di oc ow x y hx hy Q k => by
  obtain ⟨a, us, ea, ha, ku⟩ := h1.at ow di hx
  obtain ⟨b, vs, eb, hb, kv⟩ := h2.at ow di hy
  refine ⟨a, b, us, vs, ea, eb, ha, hb, by rw [ku.len, kv.len]; exact hl, fun z hz => ?_⟩
  obtain ⟨n2, e2, s2⟩ := (Nx.refl (F := F) (T := T) di oc ow).newF (o := .lst (us ++ vs)) hz
  rw [e2]
  exact k _ _ _ _ _ r n2 ⟨z, _, rfl, upd_same, (ku.mono s2).app (kv.mono s2)⟩
/-- a comprehension, frozen -/
theorem ev_lcF {vs : List Nat} {wi : TI} {g : TG} (h : EvI F T wi G W fun ds W1 => ∃ I : Nat → List D → Om → Prop, I 0 [] W1 ∧
      (∀ i d acc W', ds[i]? = some d → I i acc W' → Tw F T vs g d (wipeG G vs) fun G2 => EvT F T t G2 W' fun b W2 => if b = true then Ev F T te G2 W2 (fun z W3 => acc.length < sizeLine ∧ I (i + 1) (acc ++ [z]) W3) else I (i + 1) acc W2) ∧
      (∀ acc W', I ds.length acc W' → R (.lst acc) W')) : Ev F T (tLc wi g t te vs) G W R :=
  ev_fz (ev_lc (ei_imp h fun ds W1 ⟨I, h1, h2, h3⟩ => ⟨I, h1, h2, fun acc W' hi p hp => ⟨p, _, W', _, rfl, List.Perm.refl _, .lst _, h3 acc W' hi⟩⟩))
/-- .. each item by itself -/
theorem ev_lcM {vs : List Nat} {wi : TI} {g : TG} (h : EvI F T wi G W fun ds W1 => ∃ es : List D, (∀ (i : Nat) (d e : D), ds[i]? = some d → es[i]? = some e → Tw F T vs g d (wipeG G vs) fun G2 => EvT F T t G2 W1 fun b W2 => b = true ∧ Ev F T te G2 W2 (fun z W3 => z = e ∧ W3 = W1)) ∧ es.length = ds.length ∧ es.length ≤ sizeLine ∧ R (.lst es) W1) : Ev F T (tLc wi g t te vs) G W R :=
  ev_lcF (ei_imp h fun ds W1 ⟨es, h3, h1, h2, h4⟩ => ⟨fun i acc W' => W' = W1 ∧ acc = es.take i, ⟨rfl, by simp⟩, fun i d acc W' hd ⟨e1, e2⟩ => by
    subst e1 e2
    have hi : i < ds.length := (List.getElem?_eq_some_iff.mp hd).1
    have he : es[i]? = some es[i] := List.getElem?_eq_getElem (by omega)
    refine fun H H1 σ v lo s k Q q => h3 i d es[i] hd he H H1 σ v lo s k Q fun G2 σ2 et l2 w2 => q G2 σ2 (fun C H O σ w Q q => et C H O σ w Q fun b W2 H2 O2 ⟨e, ev⟩ n => q b W2 H2 O2 ?_ n) l2 w2
    subst e
    rw [if_pos rfl]
    refine ev.imp fun z W3 ⟨e1, e2⟩ => ⟨by rw [List.length_take]; omega, e2, ?_⟩
    rw [e1, List.take_add_one, he]
    rfl, fun acc W' ⟨e1, e2⟩ => by
    subst e1 e2
    rw [← h1, List.take_length]
    exact h4⟩)
end
theorem cut63 {xs : List D} (h : xs.length ≤ 63) : cutD xs none (some 63) = xs := by
  unfold cutD
  have e1 : HT.sIx xs.length 0 none = 0 := rfl
  have e2 : HT.sIx xs.length xs.length (some 63) = min 63 xs.length := HT.sIx_nat _ _ 63
  rw [e1, e2, List.drop_zero]
  exact List.take_of_length_le (by omega)
/-- a deck at a, c draws done, all that belongs to it in W -/
abbrev Deck := Addr → Int → Om → Prop
abbrev kS (s : Str) : Key := Sum.inr s
@[reducible] def dkA (a l : Addr) (cells : List Int) (s c : Int) : Om := [(a, .dp [(kS "great", .adr l), (kS "mixed", .int s), (kS "lap", .int c)]), (l, .lst (cells.map D.int))]
def DkA : Deck := fun a c W => ∃ (l : Addr) (cells : List Int) (s n : Int), W = dkA a l cells s n ∧ cells.length ≤ 64 ∧ 0 ≤ n ∧ n ≤ c
def S_deck (Dk : Deck) : FS := fun ds W post => ∃ ns : List Int, ds = [.scr (ns.map V.int)] ∧ W = [] ∧ ns.length ≤ 63 ∧ ∀ (a : Addr) (W' : Om), Dk a 0 W' → post (.adr a) W'
def S_draw (Dk : Deck) : FS := fun ds W post => ∃ (a : Addr) (c n : Int), ds = [.adr a, .int n] ∧ Dk a c W ∧ 0 < n ∧ n < 1073741824 ∧ c < 2 ^ 60 ∧
  ∀ (z : Int) (W' : Om), 0 ≤ z → z < n → Dk a (c + 1) W' → post (.int z) W'
def S_pick (Dk : Deck) : FS := fun ds W post => ∃ (a : Addr) (c : Int) (m : D), ds = [.adr a, m] ∧ Dk a c W ∧ c < 2 ^ 60 ∧
  ((∃ l : List D, (m = .lst l ∨ m = .tup l) ∧ l ≠ [] ∧ l.length ≤ 1000000 ∧ ∀ z ∈ l, ∀ W', Dk a (c + 1) W' → post z W') ∨
   ∃ x : Str, m = .str x ∧ x.length ≠ 0 ∧ x.length ≤ 1000000 ∧ ∀ q ∈ lets x, ∀ W', Dk a (c + 1) W' → post (.str (sg q)) W')
theorem at_of_draw {α : Type} {l : List α} {z : Int} (h0 : 0 ≤ z) (h1 : z < l.length) : ∃ y ∈ l, atI l z = some y := by
  have hz : z.toNat < l.length := by omega
  refine ⟨l[z.toNat], List.getElem_mem hz, ?_⟩
  unfold atI ixN
  rw [if_pos h0, if_pos h1]
  simp [hz]
/-- what is asked of law: a list of at most 63 ints in, True out -/
def spTop (K : PySem.W.Frag) : Sp := fun vs H Q _ => ∃ (a : Addr) (ns : List Int), vs = [.ref a] ∧ SqL K H a (ns.map V.int) ∧ ns.length ≤ 63 ∧ ∀ H', Q (.bl true) H'
def S_law : FS := fun ds W post => ∃ ns : List Int, ds = [.scr (ns.map V.int)] ∧ W = [] ∧ ns.length ≤ 63 ∧ ∀ W', post (.bl true) W'
theorem top_sp {K : PySem.W.Frag} {cl : Nat → Addr} {vs : List V} {H : Hp} {Q : VK} {E : XK} (h : spTop K vs H Q E) : spN FK ⟨K, cl⟩ S_law vs H Q E := by
  obtain ⟨a, ns, rfl, hs, hl, q⟩ := h
  refine ⟨[.scr (ns.map V.int)], [], fun _ => none, H, fun _ => none, fun d W' => d = .bl true, ?_, ?_, fun _ _ e => e, ⟨List.nodup_nil, fun _ _ h => by cases h⟩, ⟨_, _, rfl, ⟨a, rfl, hs⟩, rfl⟩, ⟨ns, rfl, rfl, hl, fun W' => rfl⟩, fun d W' H' O' v e n kd => ?_⟩
  · funext b
    rfl
  · intro b o e
    cases e
  · subst e
    have kd : v = .bl true := kd
    subst kd
    exact q _
end N
set_option Elab.async false
set_option linter.all false
set_option maxRecDepth 100000
namespace N
open PySem PySem.Spec PyProof.Rows L2
section
variable (F : FmKit) (T : Kx)
def EvPs : List (TE × TE) → Gm → Om → List (Key × D) → (List (Key × D) → Om → Prop) → Prop
  | [], _, W, acc, Y => Y acc W
  | (tk, tv) :: r, G, W, acc, Y => Ev F T tk G W fun y W1 => Ev F T tv G W1 fun z W2 => ∃ k, y = kD k ∧ EvPs r G W2 (acc ++ [(k, z)]) Y
end
def mergeG (ps : List (Key × D)) : List (Key × D) := ps.foldl (fun acc kv => putG acc kv.1 kv.2) []
section
variable {F : FmKit} {T : Kx} {C H H' O O' : Hp} {G : Gm} {W W' : Om} {R : D → Om → Prop} {σ : L2.St} {d e : D} {l m : List D} {te : TE} {t : TT}
theorem EvPs.run {Y : List (Key × D) → Om → Prop} : ∀ {trs : List (TE × TE)} {acc : List (Key × D)} {W : Om} {H O : Hp}, EvPs F T trs G W acc Y → Wd F T C G W H O σ → ∀ Q : List (V × V) → Hp → Prop,
    (∀ (ps : List (Key × D)) (kvs : List (Key × V)) W' H' O', Y (acc ++ ps) W' → Nx F T C W' H H' O' → kvs.map (·.1) = ps.map (·.1) → DenL F T H' (ps.map (·.2)) (kvs.map (·.2)) → ps.length = trs.length → Q (kvs.map fun kv => (kV kv.1, kv.2)) (ov O' H')) → tPairs trs σ (ov O H) Q
  | [], acc, W, H, O, h, w, Q, q => q [] [] W H O (by rw [List.append_nil]; exact h) w.nx rfl rfl rfl
  | (tk, tv) :: r, acc, W, H, O, h, w, Q, q => h C H O σ w _ fun y W1 H1 O1 yv h1 n1 k1 => h1 C H1 O1 σ (w.step n1) _ fun z W2 H2 O2 zv ⟨k, ek, h2⟩ n2 k2 => by
    subst ek
    have k1 : yv = kV k := k1
    subst k1
    refine EvPs.run h2 ((w.step n1).step n2) _ fun ps kvs W' H' O' y n3 e1 e2 e3 => ?_
    refine q ((k, z) :: ps) ((k, zv) :: kvs) W' H' O' (by simpa using y) ((n1.trans n2).trans n3) (by simp [e1]) ⟨zv, _, rfl, k2.mono n3.ext, e2⟩ (by simp [e3])
theorem mergeK_keys : ∀ {ps : List (Key × D)} {kvs : List (Key × V)} {acc : List (Key × D)} {av : List (Key × V)}, kvs.map (·.1) = ps.map (·.1) → av.map (·.1) = acc.map (·.1) → (acc.map (·.1)).Nodup → DenL F T H (ps.map (·.2)) (kvs.map (·.2)) → DenL F T H (acc.map (·.2)) (av.map (·.2)) →
    (mergeK av kvs).map (·.1) = (ps.foldl (fun acc kv => putG acc kv.1 kv.2) acc).map (·.1) ∧ ((ps.foldl (fun acc kv => putG acc kv.1 kv.2) acc).map (·.1)).Nodup ∧ DenL F T H ((ps.foldl (fun acc kv => putG acc kv.1 kv.2) acc).map (·.2)) ((mergeK av kvs).map (·.2))
  | [], [], acc, av, _, e, nd, _, k => ⟨e, nd, k⟩
  | [], _ :: _, _, _, h, _, _, _, _ => by simp at h
  | _ :: _, [], _, _, h, _, _, _, _ => by simp at h
  | (k, z) :: ps, (j, v) :: kvs, acc, av, h, e, nd, ⟨w, r, e1, k1, k2⟩, ka => by
    simp only [List.map_cons, List.cons.injEq] at h e1
    obtain ⟨h1, h2⟩ := h
    obtain ⟨e1, e2⟩ := e1
    subst h1 e1 e2
    exact mergeK_keys (ps := ps) (kvs := kvs) (acc := putG acc j z) (av := putK av j v) h2 ((putG_V av j v) ▸ putG_keys (z := v) (y := z) e) (putG_nodup nd) k2 ((putG_V av j v) ▸ putG_den k1 e ka)
/-- {k: e, ..} -/
theorem ev_disp {trs : List (TE × TE)} (h : EvPs F T trs G W [] fun ps W' => ps.length ≤ 15 ∧ ∀ p, p ∉ akeys W' → R (.adr p) ((p, .dp (mergeG ps)) :: W')) : Ev F T (tDisp trs) G W R := fun C H O σ w Q q p hp => by
  obtain ⟨n0, e0, cp⟩ := w.nx.hide (o := .dK []) hp
  rw [e0]
  refine EvPs.run h ⟨n0.dis, n0.oc, w.loc, n0.own⟩ _ fun ps kvs W' H' O' y n e1 e2 e3 => ?_
  have hO : ov O' H' p = some (.dK []) := ov_own (n.oc p _ upd_same)
  have hl : kvs.length = ps.length := by
    have := congrArg List.length e1
    rwa [List.length_map, List.length_map] at this
  obtain ⟨y1, y2⟩ := y
  refine ⟨hO, kvs, rfl, by rw [hl]; exact y1, ?_⟩
  obtain ⟨n6, e6⟩ := Nx.rehide (o' := .dK (mergeK [] kvs)) n cp
  rw [e6]
  obtain ⟨m1, m2, m3⟩ := mergeK_keys (F := F) (T := T) (H := H') (acc := []) (av := []) e1 rfl List.nodup_nil e2 (show DenL F T H' (([] : List (Key × D)).map (·.2)) (([] : List (Key × V)).map (·.2)) from rfl)
  obtain ⟨n7, np⟩ := n6.show (od := .dp (mergeG ps)) cp ⟨mergeK [] kvs, rfl, m1, m2, m3⟩
  exact q (.adr p) _ H' _ _ (y2 p np) n7 rfl
theorem ca_slF {lo hi : Option Int} (hv : Vl W d l) (r : R (.lst (cutD l lo hi)) W) : Ca F T (fun xs H Q => ∃ x, xs = [x] ∧ rSlL T.K x lo hi H Q) [d] W R :=
  ca_fz (ca_slL hv fun p hp => ⟨p, _, W, _, rfl, List.Perm.refl _, .lst _, r⟩)
theorem ev_revF (h : Ev F T te G W fun d W1 => ∃ l, Vl W1 d l ∧ R (.lst l.reverse) W1) : Ev F T (tRevL T.K te) G W R :=
  ev_fz (ev_revL (h.imp fun d W1 ⟨l, hv, r⟩ => ⟨l, hv, fun p hp => ⟨p, _, W1, _, rfl, List.Perm.refl _, .lst _, r⟩⟩))
end
section
variable {F : FmKit} {T : Kx} {G : Gm} {W : Om} {R : D → Om → Prop}
theorem eps_nil {acc : List (Key × D)} {Y : List (Key × D) → Om → Prop} (h : Y acc W) : EvPs F T [] G W acc Y := h
theorem eps_cons {tk tv : TE} {r : List (TE × TE)} {acc : List (Key × D)} {Y : List (Key × D) → Om → Prop} (h : Ev F T tk G W fun y W1 => Ev F T tv G W1 fun z W2 => ∃ k, y = kD k ∧ EvPs F T r G W2 (acc ++ [(k, z)]) Y) : EvPs F T ((tk, tv) :: r) G W acc Y := h
theorem exk_str {s : Str} {Z : Key → Prop} (h : Z (Sum.inr s)) : ∃ k, D.vl (.str s) = kD k ∧ Z k := ⟨_, rfl, h⟩
theorem exk_int {i : Int} {Z : Key → Prop} (h : Z (Sum.inl i)) : ∃ k, D.vl (.int i) = kD k ∧ Z k := ⟨_, rfl, h⟩
theorem dg_str {d : D} {s : Str} {ps : List (Key × D)} {z : D} {Y : D → Prop} (hv : Vd W d ps) (hg : getG ps (Sum.inr s) = some z) (r : Y z) : ∃ ps k z, Vd W d ps ∧ D.vl (.str s) = kD k ∧ getG ps k = some z ∧ Y z := ⟨ps, _, z, hv, rfl, hg, r⟩
end
theorem putG_new {α : Type} {ps : List (Key × α)} {k : Key} {z : α} (h : k ∉ ps.map (·.1)) : putG ps k z = ps ++ [(k, z)] := by
  unfold putG
  rw [if_neg]
  intro e
  rw [List.any_eq_true] at e
  obtain ⟨q, hq, e⟩ := e
  exact h (List.mem_map.mpr ⟨q, hq, of_decide_eq_true e⟩)
theorem getG_hd {α : Type} (k : Key) (z : α) (ps : List (Key × α)) : getG ((k, z) :: ps) k = some z := by
  unfold getG
  rw [List.find?_cons, decide_eq_true rfl]
  rfl
theorem getG_tl {α : Type} {k j : Key} {y : α} {ps : List (Key × α)} {r : Option α} (h : decide (j = k) = false) (e : getG ps k = r) : getG ((j, y) :: ps) k = r := by
  rw [← e]
  unfold getG
  rw [List.find?_cons, h]
theorem putG_set {α : Type} {k : Key} {z : α} : ∀ {ps : List (Key × α)} {i : Nat}, (ps.map (·.1)).Nodup → (ps.map (·.1))[i]? = some k → putG ps k z = ps.set i (k, z) := fun {ps i} hn hi => by
  have hm : ∀ (ps : List (Key × α)) (i : Nat), (ps.map (·.1)).Nodup → (ps.map (·.1))[i]? = some k → (ps.any fun q => decide (q.1 = k)) = true ∧ ps.map (fun q => if q.1 = k then (q.1, z) else q) = ps.set i (k, z) := fun ps => by
    induction ps with
    | nil => intro i _ h; simp at h
    | cons p ps ih =>
      intro i hn hi
      rw [List.map_cons, List.nodup_cons] at hn
      cases i with
      | zero =>
        have e : p.1 = k := Option.some.inj hi
        refine ⟨by rw [List.any_cons, decide_eq_true e]; rfl, ?_⟩
        rw [List.map_cons, if_pos e, List.set_cons_zero, e]
        congr 1
        have : ∀ q ∈ ps, (if q.1 = k then (q.1, z) else q) = q := fun q hq => by
          rw [if_neg]
          intro e2
          exact hn.1 (List.mem_map.mpr ⟨q, hq, e2.trans e.symm⟩)
        rw [List.map_congr_left this, List.map_id']
      | succ i =>
        rw [List.map_cons, List.getElem?_cons_succ] at hi
        obtain ⟨h1, h2⟩ := ih i hn.2 hi
        refine ⟨by rw [List.any_cons, h1, Bool.or_true], ?_⟩
        have ne : p.1 ≠ k := fun e => hn.1 (by rw [e]; exact List.mem_of_getElem? hi)
        rw [List.map_cons, if_neg ne, List.set_cons_succ, h2]
  obtain ⟨h1, h2⟩ := hm ps i hn hi
  unfold putG
  rw [if_pos h1, h2]
theorem mergeG_acc : ∀ {ps acc : List (Key × D)}, ((acc ++ ps).map (·.1)).Nodup → ps.foldl (fun acc kv => putG acc kv.1 kv.2) acc = acc ++ ps
  | [], acc, _ => by simp
  | p :: ps, acc, h => by
    rw [List.foldl_cons]
    have hn : p.1 ∉ acc.map (·.1) := fun z => by
      rw [List.map_append, List.nodup_append] at h
      exact h.2.2 _ z _ (by simp) rfl
    rw [putG_new hn, mergeG_acc (by simpa using h)]
    simp
theorem mergeG_nd {ps : List (Key × D)} (h : (ps.map (·.1)).Nodup) : mergeG ps = ps := by
  unfold mergeG
  rw [mergeG_acc (by simpa using h)]
  rfl
end N
set_option Elab.async false
set_option linter.all false
set_option maxRecDepth 100000
namespace N
open PySem PySem.Spec PyProof.Rows L2
section
variable (F : FmKit) (T : Kx)
def Unr (vs : List Nat) (g : TG) (t : TT) (te : TE) (G0 : Gm) (Y : List D → Om → Prop) : List D → List D → Om → Prop
  | [], acc, W => Y acc W
  | d :: ds, acc, W => Tw F T vs g d G0 fun G2 => EvT F T t G2 W fun b W2 => if b = true then Ev F T te G2 W2 (fun z W3 => acc.length < sizeLine ∧ Unr vs g t te G0 Y ds (acc ++ [z]) W3) else Unr vs g t te G0 Y ds acc W2
def Swu (g : TG) (ts : TS) (E : En) : List D → Gm → Om → Prop
  | [], G, W => E.nx G W
  | d :: ds, G, W => Tg F T g d G fun G2 => Sw F T ts G2 W { E with nx := Swu g ts E ds, ct := Swu g ts E ds, bk := E.nx }
end
section
variable {F : FmKit} {T : Kx} {G : Gm} {W : Om} {R : D → Om → Prop} {te : TE} {t : TT} {vs : List Nat} {wi : TI} {g : TG} {ts : TS} {E : En} {d : D} {ds acc : List D} {Y : List D → Om → Prop}
theorem unr_nil (h : Y acc W) : Unr F T vs g t te G Y [] acc W := h
theorem unr_cons (h : Tw F T vs g d G fun G2 => EvT F T t G2 W fun b W2 => if b = true then Ev F T te G2 W2 (fun z W3 => acc.length < sizeLine ∧ Unr F T vs g t te G Y ds (acc ++ [z]) W3) else Unr F T vs g t te G Y ds acc W2) : Unr F T vs g t te G Y (d :: ds) acc W := h
theorem swu_nil (h : E.nx G W) : Swu F T g ts E [] G W := h
theorem swu_cons (h : Tg F T g d G fun G2 => Sw F T ts G2 W { E with nx := Swu F T g ts E ds, ct := Swu F T g ts E ds, bk := E.nx }) : Swu F T g ts E (d :: ds) G W := h
theorem acc_ok (h : acc.length ≤ 1000 := by simp) : acc.length < sizeLine := by
  have := sizeLine_eq
  omega
end
section
variable {F : FmKit} {T : Kx} {W : Om} {R : D → Om → Prop}
theorem ca_intBt {b : Bool} (hb : b = true) (h : R (.int 1) W) : Ca F T (fun xs H Q => (∃ i, xs = [.int i] ∧ Q (.int i) H) ∨ ∃ k, xs = [.bl k] ∧ Q (.int (if k then 1 else 0)) H) [.bl b] W R := ca_intB (by rw [hb]; exact h)
theorem ca_intBf {b : Bool} (hb : b = false) (h : R (.int 0) W) : Ca F T (fun xs H Q => (∃ i, xs = [.int i] ∧ Q (.int i) H) ∨ ∃ k, xs = [.bl k] ∧ Q (.int (if k then 1 else 0)) H) [.bl b] W R := ca_intB (by rw [hb]; exact h)
end
section
variable {F : FmKit} {T : Kx} {C H H' O O' : Hp} {W : Om} {R : D → Om → Prop} {S : FS} {l : List D}
theorem tyd_tup : TyD F T W (.tup l) (.type "tuple") := fun C H O di ow x k => by
  obtain ⟨a, xs, e, hs, kl⟩ := k
  subst e
  rcases Same.sqT di.same hs with (h | ⟨o, h⟩) | ⟨o, its, n, h1, h2, _⟩
  · exact .base (.tup h)
  · exact .fTuple h
  · exact .kTuple h1 h2
theorem isi_tup (r : R (.bl true) W) : Ca F T (rIsi T.K) [.tup l, .vl (.ty "tuple")] W R := ca_isi (.ty "tuple") tyd_tup (by unfold PySem.W.kitOne; rfl) r
theorem isi_fm {f : Fm} {ns : List Str} (z : CZ T.K (T.cl 0) ns) (r : R (.bl true) W) : Ca FK T (rIsi T.K) [.fm f, .adr (T.cl 0)] W R := isi_ins (.fm f) z.ins r
theorem ca_lenF {f : Fm} (h : Hand S [.fm f] W fun d' W' => (∃ n : Int, d' = .int n ∧ 0 ≤ n ∧ n < 2 ^ 63) ∧ R d' W') : Ca FK T (rLenO (T.cl 0) (spN FK T S)) [.fm f] W R := ca_lenO (.fm f) h
end
end N
set_option Elab.async false
set_option linter.all false
set_option maxRecDepth 100000
set_option Elab.async false
set_option linter.all false
set_option maxRecDepth 100000
namespace N
open PySem PySem.Spec PyProof.Rows L2
open C8 (Cal Met Mak InsC pe_c pe_mt pe_mt0 pe_mk)
section
variable {X : Cx} {k j : Nat} {x m : Str} {C : Addr} {sp : Sp} {e o : Expr} {es : List Expr} {t ta : TA} {p pos apos : Pos}
theorem kb1_of {K : PySem.W.Frag} {x qual : Str} {st : Stmt} {f : Addr} {fd : FuncData} {ps ks : List Str} {g : List Value → List Value → List Value} {gV : List V → List V → List V} (Fn : Fun K x qual st f fd)
    (h : ∀ (kV doc pm : Value) (an : Option Addr) (cdv ct u : Value) (ws : List Value), ws.length = ks.length → bindArgs (PySem.W.fnOf x qual (defArgs st) (defBody st) (defScope st) .none kV doc pm an cdv ct) ⟨[u], ks.zip ws⟩ = pure (ps.zip (g [u] ws)))
    (rel : ∀ {vs : List V} {us : List Value} {zs : List V} {ws : List Value}, Vals vs us → Vals zs ws → Vals (gV vs zs) (g us ws)) : KBn K fd ps 1 ks g gV := by
  obtain ⟨oc, od, kV, doc, pm, an, cdv, ct, osl, rfl, lk, hcd⟩ := Fn.ex
  refine ⟨fun s us ws _ h1 h2 => ?_, rel⟩
  obtain ⟨u, rfl⟩ : ∃ u, us = [u] := List.length_eq_one_iff.mp h1
  exact .of_eq (h kV doc pm an cdv ct u ws h2)
end
section
variable {F : FmKit} {T : Kx} {G : Gm} {W : Om} {R : D → Om → Prop}
/-- {k: e, ..}, frozen at once -/
theorem ev_dispF {trs : List (TE × TE)} (h : EvPs F T trs G W [] fun ps W' => ps.length ≤ 15 ∧ R (.dp (mergeG ps)) W') : Ev F T (tDisp trs) G W R := by
  have up : ∀ (trs : List (TE × TE)) (W : Om) (acc : List (Key × D)) (Y Z : List (Key × D) → Om → Prop), (∀ ps W', Y ps W' → Z ps W') → EvPs F T trs G W acc Y → EvPs F T trs G W acc Z := by
    intro trs
    induction trs with
    | nil => exact fun W acc Y Z i h => i _ _ h
    | cons t trs ih => exact fun W acc Y Z i h => Ev.imp h fun y W1 h1 => Ev.imp h1 fun z W2 ⟨k, e, h2⟩ => ⟨k, e, ih _ _ _ _ i h2⟩
  exact ev_fz (ev_disp (up _ _ _ _ _ (fun ps W' ⟨h1, h2⟩ => ⟨h1, fun p hp => ⟨p, _, W', _, rfl, List.Perm.refl _, .dct _ _, h2⟩⟩) h))
end
end N
set_option Elab.async false
set_option linter.all false
set_option maxRecDepth 100000
set_option maxHeartbeats 1000000
namespace PySem
open Sem (wp)
end PySem
set_option Elab.async false
set_option linter.all false
set_option maxRecDepth 100000
set_option maxHeartbeats 1000000
namespace N
open PySem PySem.Spec PyProof.Rows L2
open C8 (Cal Met Mak InsC pe_c pe_mt pe_mt0 pe_mk)
inductive Kd
  | lst (a : Addr)
  | tup (a : Addr)
  | txt (x : Str)
def Kd.v : Kd → V
  | .lst a => .ref a
  | .tup a => .ref a
  | .txt x => .str x
def Kd.src (K : PySem.W.Frag) (H : Hp) : Kd → List V → Prop
  | .lst a, xs => SqL K H a xs
  | .tup a, xs => SqT K H a xs
  | .txt x, xs => xs = x.cps.toList.map fun c => V.str ⟨#[c]⟩
def Kd.at (k : Kd) (t : Tok) (it : Addr) (i : Nat) (h : Heap) : Prop := match k with
  | .lst a => h.IsListIter it a i
  | .tup a => h.IsTupleIter it a i
  | .txt x => h.IsStrIter it (strIterType x) x t i
theorem Kd.keep {k : Kd} {t : Tok} {it : Addr} {i : Nat} {h h' : Heap} (s : k.at t it i h) (e : ∀ o, h.get? it = some o → h'.get? it = some o) : k.at t it i h' := by
  cases k with
  | lst a => exact Heap.IsListIter.at s e
  | tup a => exact Heap.IsTupleIter.at s e
  | txt x =>
    obtain ⟨o, ho, r⟩ := s
    exact ⟨o, e o ho, r⟩
theorem Kd.obj {k : Kd} {t : Tok} {it : Addr} {i : Nat} {h : Heap} (s : k.at t it i h) : ∃ o, h.get? it = some o ∧ ∀ v, o.data ≠ .cell v := by
  cases k with
  | lst a =>
    obtain ⟨o, e, _, d⟩ := s
    exact ⟨o, e, fun v q => by rw [d] at q; cases q⟩
  | tup a =>
    obtain ⟨o, e, _, d⟩ := s
    exact ⟨o, e, fun v q => by rw [d] at q; cases q⟩
  | txt x =>
    obtain ⟨o, e, _, d⟩ := s
    exact ⟨o, e, fun v q => by rw [d] at q; cases q⟩
section
variable {X : Cx} {pins : List (Addr × Obj)} {σ : L2.St} {H : Hp} {s : Shared}
theorem Kd.inj {k : Kd} {xs ys : List V} (I : Inv X pins σ H s) (h : k.src X.K H xs) (h' : k.src X.K H ys) : xs = ys := by
  cases k with
  | lst a => exact I.list_inj h h'
  | tup a => exact I.tuple_inj h h'
  | txt x => exact Eq.trans h (Eq.symm h')
end
end N
set_option Elab.async false
set_option linter.all false
set_option maxRecDepth 100000
set_option maxHeartbeats 1000000
namespace PySem
open Sem (wp)
end PySem
namespace N
open PySem PySem.Spec PyProof.Rows L2
open C8 (Cal Met Mak InsC pe_c pe_mt pe_mt0 pe_mk)
section
variable {F : FmKit} {T : Kx} {C H H' O O' : Hp} {G : Gm} {W W' : Om} {R : D → Om → Prop} {d e : D} {l m : List D} {ta tk : TA}
/-- a datum that zip takes: list, tuple, text; nothing that is still written -/
def Zs (d : D) (l : List D) : Prop := d = .lst l ∨ d = .tup l ∨ ∃ x : Str, d = .str x ∧ l = x.cps.toList.map fun c => D.str ⟨#[c]⟩
theorem den_chars (x : Str) : DenL F T H (x.cps.toList.map fun c => D.str ⟨#[c]⟩) (x.cps.toList.map fun c => V.str ⟨#[c]⟩) := by
  induction x.cps.toList with
  | nil => rfl
  | cons c cs ih => exact ⟨_, _, rfl, rfl, ih⟩
/-- the source at the machine; it stands -/
theorem Zs.kd {x : V} (h : Zs d l) (k : Den F T H d x) : ∃ (kd : Kd) (xs : List V), x = kd.v ∧ DenL F T H l xs ∧ ∀ H2 O2, Same H H2 → Dis O2 H2 → kd.src T.K (ov O2 H2) xs := by
  rcases h with rfl | rfl | ⟨z, rfl, rfl⟩
  · obtain ⟨a, xs, e, hs, kl⟩ := k
    exact ⟨.lst a, xs, e, kl, fun H2 O2 s di => di.same.seq (s.seq (SqL.of hs))⟩
  · obtain ⟨a, xs, e, hs, kl⟩ := k
    exact ⟨.tup a, xs, e, kl, fun H2 O2 s di => Same.sqT di.same (Same.sqT s hs)⟩
  · have k : x = .str z := k
    exact ⟨.txt z, _, k, den_chars z, fun _ _ _ _ => rfl⟩
end
end N
set_option Elab.async false
set_option linter.all false
set_option maxRecDepth 100000
set_option maxHeartbeats 1000000
set_option Elab.async false
set_option linter.all false
set_option maxRecDepth 100000
set_option maxHeartbeats 1000000
namespace PySem
open Sem (wp)
end PySem
set_option Elab.async false
set_option linter.all false
set_option maxRecDepth 100000
namespace N
open PySem PySem.Spec PyProof.Rows L2
namespace Fm
def ht : Fm → Nat
  | .at _ => 0
  | .no => 0
  | .imp a b => 1 + max a.ht b.ht
  | .all a => 1 + a.ht
theorem sz_ht : ∀ f : Fm, f.sz + 5 ≤ 7 * 2 ^ f.ht
  | .at _ => by simp [sz, ht]
  | .no => by simp [sz, ht]
  | .imp a b => by
    have h1 := sz_ht a
    have h2 := sz_ht b
    have l1 : 2 ^ a.ht ≤ 2 ^ max a.ht b.ht := Nat.pow_le_pow_right (by omega) (Nat.le_max_left _ _)
    have l2 : 2 ^ b.ht ≤ 2 ^ max a.ht b.ht := Nat.pow_le_pow_right (by omega) (Nat.le_max_right _ _)
    simp only [sz, ht, Nat.pow_add, Nat.pow_one]
    omega
  | .all a => by
    have h1 := sz_ht a
    have : 1 ≤ 2 ^ a.ht := Nat.one_le_two_pow
    simp only [sz, ht, Nat.pow_add, Nat.pow_one]
    omega
/-- few unlike all-parts -/
def few (k : Nat) (f : Fm) : Prop := ∃ L : List Fm, L.length ≤ k ∧ ∀ g ∈ f.alls, g ∈ L
theorem few.len {k : Nat} {f : Fm} (h : few k f) (ok : f.okL) : f.alls.length ≤ k := by
  obtain ⟨L, h1, h2⟩ := h
  exact Nat.le_trans (len_le (nodup_asc (alls_sub ok).2) h2) h1
theorem few.up {k j : Nat} {f : Fm} (h : few k f) (hk : k ≤ j) : few j f := let ⟨L, h1, h2⟩ := h; ⟨L, by omega, h2⟩
theorem few.imp {k j : Nat} {f g : Fm} (h : few k f) (h' : few j g) : few (k + j) (.imp f g) := by
  obtain ⟨L, h1, h2⟩ := h
  obtain ⟨M, h3, h4⟩ := h'
  refine ⟨L ++ M, by rw [List.length_append]; omega, fun x hx => ?_⟩
  rw [List.mem_append]
  exact (mem_merge.mp hx).imp (h2 x) (h4 x)
theorem few.same {k : Nat} {f : Fm} (h : few k f) : few k (.imp f f) := by
  obtain ⟨L, h1, h2⟩ := h
  exact ⟨L, h1, fun x hx => (mem_merge.mp hx).elim (h2 x) (h2 x)⟩
theorem few.all {k : Nat} {f : Fm} (h : few k f) : few (k + 1) (.all f) := by
  obtain ⟨L, h1, h2⟩ := h
  refine ⟨.all f :: L, by rw [List.length_cons]; omega, fun x hx => ?_⟩
  rw [List.mem_cons]
  rcases mem_merge.mp hx with h | h
  · exact .inr (h2 x h)
  · exact .inl (List.mem_singleton.mp h)
theorem few.at (c : Nat) : few 0 (.at c) := ⟨[], Nat.le_refl _, fun x hx => by simp [alls] at hx⟩
theorem few.no : few 0 .no := ⟨[], Nat.le_refl _, fun x hx => by simp [alls] at hx⟩
theorem few_ht : ∀ f : Fm, few (2 ^ f.ht - 1) f
  | .at c => (few.at c).up (by omega)
  | .no => few.no.up (by omega)
  | .imp a b => by
    have l1 : 2 ^ a.ht ≤ 2 ^ max a.ht b.ht := Nat.pow_le_pow_right (by omega) (Nat.le_max_left _ _)
    have l2 : 2 ^ b.ht ≤ 2 ^ max a.ht b.ht := Nat.pow_le_pow_right (by omega) (Nat.le_max_right _ _)
    refine ((few_ht a).imp (few_ht b)).up ?_
    simp only [ht, Nat.pow_add, Nat.pow_one]
    omega
  | .all a => by
    have : 1 ≤ 2 ^ a.ht := Nat.one_le_two_pow
    refine (few_ht a).all.up ?_
    simp only [ht, Nat.pow_add, Nat.pow_one]
    omega
end Fm
theorem DkA_mono {a : Addr} {c c' : Int} {W : Om} (h : DkA a c W) (hc : c ≤ c') : DkA a c' W := let ⟨l, cells, s, n, h1, h2, h3, h4⟩ := h; ⟨l, cells, s, n, h1, h2, h3, by omega⟩
def letters (p : Str) : Prop := ∀ c ∈ lets p, (65 ≤ c ∧ c ≤ 90) ∨ (97 ≤ c ∧ c ≤ 122)
end N
set_option Elab.async false
set_option linter.all false
set_option maxRecDepth 100000
namespace N
open PySem PySem.Spec PyProof.Rows L2
namespace Fm
def inner : Fm → List Fm
  | .imp a b => [a, b]
  | .all a => [a]
  | _ => []
def subs : Fm → List Fm
  | .at c => [.at c]
  | .no => [.no]
  | .imp a b => .imp a b :: (subs a ++ subs b)
  | .all a => .all a :: subs a
theorem subs_self (f : Fm) : f ∈ subs f := by cases f <;> simp [subs]
/-- each one behind those within it -/
inductive Cl : List Fm → Prop
  | nil : Cl []
  | snoc {l : List Fm} {g : Fm} : Cl l → (∀ p ∈ inner g, p ∈ l) → Cl (l ++ [g])
theorem Cl.take {l : List Fm} (h : Cl l) : ∀ i g, l[i]? = some g → ∀ p ∈ inner g, p ∈ l.take i := by
  induction h with
  | nil => intro i g h; simp at h
  | @snoc l g h hp ih =>
    intro i x hx p px
    by_cases hi : i < l.length
    · rw [List.getElem?_append_left hi] at hx
      rw [List.take_append_of_le_length (by omega)]
      exact ih i x hx p px
    · rw [List.getElem?_append_right (by omega)] at hx
      have e : i = l.length := by
        have := (List.getElem?_eq_some_iff.mp hx).1
        simp at this
        omega
      subst e
      simp at hx
      subst hx
      simp
      exact hp p px
structure PW (f : Fm) (K F : List Fm) (L : List (Fm × Bool)) : Prop where
  kn : K.Nodup
  ks : ∀ g ∈ K, g ∈ subs f
  ls : ∀ x ∈ L, x.1 ∈ subs f
  kf : ∀ g, g ∈ K ↔ g ∈ F ∨ (g, true) ∈ L
  fn : F.Nodup
  dj : ∀ g ∈ F, (g, true) ∉ L
  cl : Cl F
  up : ∀ A h B, L = A ++ (h, true) :: B → (∀ x ∈ B, x.1.sz < h.sz) ∧ ∀ p ∈ inner h, p ∈ F ∨ ∃ b, (p, b) ∈ B
  bt : (∃ B, L = (f, true) :: B) ∨ (L = [] ∧ ∃ F', F = F' ++ [f]) ∨ (L = [(f, false)] ∧ K = [])
  ln : L.length ≤ 2 * K.length + 1
theorem PW.start (f : Fm) : PW f [] [] [(f, false)] where
  kn := List.nodup_nil
  ks := by simp
  ls := by simp [subs_self]
  kf := by simp
  fn := List.nodup_nil
  dj := by simp
  cl := .nil
  up := by
    intro A h B e
    have : (h, true) ∈ [(f, false)] := by rw [e]; simp
    simp at this
  bt := .inr (.inr ⟨rfl, rfl⟩)
  ln := by simp
/-- others in the place of atoms -/
def sub (σ : Nat → Fm) : Fm → Fm
  | .at c => σ c
  | .no => .no
  | .imp a b => .imp (a.sub σ) (b.sub σ)
  | .all a => .all (a.sub σ)
end Fm
end N
set_option Elab.async false
set_option linter.all false
set_option maxRecDepth 100000
namespace N
open PySem PySem.Spec PyProof.Rows L2
open C8 (Cal Met Mak InsC pe_c pe_mt pe_mt0 pe_mk)
def wbNames : List Str := ["below", "atoms", "all_beneath", "all_heights"]
structure Wb where
  below : List (List Nat)
  atoms : List Str
abbrev natD (k : Nat) : D := .int (k : Nat)
abbrev rowD (r : List Nat) : D := .tup (r.map natD)
abbrev rowsD (rs : List (List Nat)) : D := .tup (rs.map rowD)
abbrev atomsD (l : List Str) : D := .tup (l.map .str)
/-- the points beneath each one, by the points directly below -/
def bensF (rs : List (List Nat)) : List (List Nat) := rs.foldl (fun acc r => acc ++ [ascN (r ++ (r.map fun k => acc.getD k []).flatten)]) []
def hgtF (rs : List (List Nat)) : List Nat := rs.foldl (fun acc r => acc ++ [((r.map fun k => 1 + acc.getD k 0)).foldl max 0]) []
structure rowsOk (rs : List (List Nat)) : Prop where
  asc : ∀ (i : Nat) (r : List Nat), rs[i]? = some r → r.Pairwise (· < ·) ∧ ∀ k ∈ r, k < i
  few : rs.length ≤ 63
theorem rowsOk.take {rs : List (List Nat)} (h : rowsOk rs) (n : Nat) : rowsOk (rs.take n) where
  asc := fun i r hr => by
    rw [List.getElem?_take] at hr
    split at hr
    · exact h.asc i r hr
    · cases hr
  few := Nat.le_trans (by rw [List.length_take]; exact Nat.min_le_right _ _) h.few
theorem bensF_snoc (rs : List (List Nat)) (r : List Nat) : bensF (rs ++ [r]) = bensF rs ++ [ascN (r ++ (r.map fun k => (bensF rs).getD k []).flatten)] := by
  unfold bensF
  rw [List.foldl_append]
  rfl
theorem snoc_ind {α : Type} {P : List α → Prop} (h0 : P []) (h1 : ∀ l a, P l → P (l ++ [a])) (l : List α) : P l := by
  rw [← List.reverse_reverse l]
  induction l.reverse with
  | nil => exact h0
  | cons a l ih =>
    rw [List.reverse_cons]
    exact h1 _ a ih
theorem bensF_len (rs : List (List Nat)) : (bensF rs).length = rs.length := by
  induction rs using snoc_ind with
  | h0 => rfl
  | h1 rs r ih => rw [bensF_snoc, List.length_append, List.length_append, ih]; rfl
structure Wb.ok (w : Wb) : Prop where
  rows : rowsOk w.below
  some_ : w.below ≠ []
  len : w.atoms.length = w.below.length
  lets : ∀ s ∈ w.atoms, letters s ∧ (N.lets s).Pairwise (· < ·)
def Wb.d (w : Wb) : D := .obj 1 wbNames [rowsD w.below, atomsD w.atoms, .lst ((bensF w.below).map rowD), .lst ((hgtF w.below).map natD)]
section
variable {F : FmKit} {T : Kx} {W : Om} {R : D → Om → Prop}
theorem isi_int {i : Int} (r : R (.bl true) W) : Ca F T (rIsi T.K) [.int i, .vl (.ty "int")] W R := ca_isi (.ty "int") tyd_int (by unfold PySem.W.kitOne; rfl) r
theorem isi_intB {i : Int} (r : R (.bl false) W) : Ca F T (rIsi T.K) [.int i, .vl (.ty "bool")] W R := ca_isi (.ty "bool") tyd_int (by unfold PySem.W.kitOne; first | rfl | decide +kernel) r
end
theorem letters_len {s : Str} (hl : letters s) (hp : (lets s).Pairwise (· < ·)) : s.length ≤ 100 := by
  have h1 := hp.imp (S := (· ≠ ·)) fun h => Nat.ne_of_lt h
  have h2 := List.Nodup.length_le_of_subset (l₁ := (lets s).map (· - 30)) (l₂ := List.range 100) ?_ fun x hx => ?_
  · rw [List.length_range, List.length_map, ← str_len] at h2
    exact h2
  · rw [List.Nodup, List.pairwise_map]
    refine hp.imp_of_mem fun {a b} ha hb h => ?_
    have := hl a ha
    have := hl b hb
    omega
  · obtain ⟨c, hc, rfl⟩ := List.mem_map.mp hx
    have := hl c hc
    rw [List.mem_range]
    omega
theorem bensF_low {rs : List (List Nat)} : rowsOk rs → ∀ (i : Nat) (b : List Nat), (bensF rs)[i]? = some b → ∀ x ∈ b, x < i := by
  induction rs using snoc_ind with
  | h0 => intro _ i b h; simp [bensF] at h
  | h1 rs r ih =>
    intro ok i b h x hx
    have ok2 : rowsOk rs := by
      have := ok.take rs.length
      simpa using this
    rw [bensF_snoc] at h
    by_cases hi : i < (bensF rs).length
    · rw [List.getElem?_append_left hi] at h
      exact ih ok2 i b h x hx
    · rw [List.getElem?_append_right (by omega)] at h
      have e : i = rs.length := by
        have := (List.getElem?_eq_some_iff.mp h).1
        rw [bensF_len] at *
        simp at this
        omega
      subst e
      rw [bensF_len] at h
      simp at h
      subst h
      rw [mem_ascN, List.mem_append] at hx
      have hr := (ok.asc rs.length r (by simp)).2
      rcases hx with h | h
      · exact hr x h
      · obtain ⟨l, hl, hx2⟩ := List.mem_flatten.mp h
        obtain ⟨k, hk, rfl⟩ := List.mem_map.mp hl
        have hk2 := hr k hk
        have hb : (bensF rs)[k]? = some ((bensF rs).getD k []) := by
          rw [List.getD_eq_getElem?_getD, List.getElem?_eq_getElem (by rw [bensF_len]; exact hk2)]
          rfl
        have := ih ok2 k _ hb x hx2
        omega
theorem low_len {ks : List Nat} {j : Nat} (nd : ks.Nodup) (h : ∀ x ∈ ks, x < j) : ks.length ≤ j := by
  have h2 := List.Nodup.length_le_of_subset (l₁ := ks) (l₂ := List.range j) nd fun x hx => List.mem_range.mpr (h x hx)
  rwa [List.length_range] at h2
inductive FldW : Str → Wb → D → Prop
  | below (w : Wb) : FldW "below" w (rowsD w.below)
  | atoms (w : Wb) : FldW "atoms" w (atomsD w.atoms)
  | bens (w : Wb) : FldW "all_beneath" w (.lst ((bensF w.below).map rowD))
  | hgts (w : Wb) : FldW "all_heights" w (.lst ((hgtF w.below).map natD))
end N
set_option Elab.async false
set_option linter.all false
set_option maxRecDepth 100000
namespace N
open PySem PySem.Spec PyProof.Rows L2
open C8 (Cal Met Mak InsC pe_c pe_mt pe_mt0 pe_mk)
/-- a def of the text with defaults -/
abbrev FunT (K : PySem.W.Frag) (x qual : Str) (st : Stmt) (dvs : List V) (f : Addr) (fd : FuncData) : Prop := FunD K x qual (defArgs st) (defBody st) (defScope st) dvs [] f fd
section
variable {P : Program} {w : World} {K : PySem.W.Frag} {mg : Str → Option Value} {base : Heap} {F : FmKit} {cl : Nat → Addr} {S : FS}
/-- every argument is written -/
theorem FunT.all {x qual : Str} {st : Stmt} {dvs : List V} {f : Addr} {fd : FuncData} {ps : List Str} (Fn : FunT K x qual st dvs f fd) (hd : dvs ≠ [])
    (h : ∀ (T : Addr) (kV doc pm : Value) (an : Option Addr) (cdv ct : Value) (us its : List Value), us.length = ps.length → its.length = dvs.length →
      ∃ k, bindArgs (PySem.W.fnOf x qual (defArgs st) (defBody st) (defScope st) (.ref T) kV doc pm an cdv ct) ⟨us, []⟩ = seqItems? (.ref T) >>= k ∧ k (some its.toArray) = pure (ps.zip us)) : Binds K fd ps [] := by
  obtain ⟨ds, r, b⟩ := FunD.binds1 (ps := ps) Fn ps.length dvs.length hd (by omega) (fun T kV doc pm an cdv ct us its h1 h2 => by
    obtain ⟨k, e1, e2⟩ := h T kV doc pm an cdv ct us its h1 h2
    refine ⟨k, e1, ?_⟩
    rw [e2, List.drop_of_length_le (by omega), List.append_nil])
  rw [List.drop_of_length_le (Nat.le_refl _)] at r
  cases r
  exact b
end
theorem inst_wb {F : FmKit} {W : Om} (w : Wb) : Inst F W w.d 1 wbNames [rowsD w.below, atomsD w.atoms, .lst ((bensF w.below).map rowD), .lst ((hgtF w.below).map natD)] := .obj _ _ _
/-- a field of a formula or of a web -/
theorem ev_fwF {T : Kx} {G : Gm} {W : Om} {R : D → Om → Prop} {ta : TE} {n : Str} (zf : FZ T.K (T.cl 0)) (zw : CZ T.K (T.cl 1) wbNames)
    (h : Ev FK T ta G W fun d W1 => (∃ f z, d = .fm f ∧ FldF n f z ∧ R z W1) ∨ ∃ w z, d = Wb.d w ∧ FldW n w z ∧ R z W1) : Ev FK T (tFld T.K ta n) G W R :=
  ev_fld (h.imp fun d W1 hh => by
    rcases hh with ⟨f, z, e, k, r⟩ | ⟨w, z, e, f, r⟩
    · subst e
      exact ⟨0, fmNames, fmVals FK f, z, .fm f, zf.cls, zf.nos n k.look.1, k.look.2, r⟩
    · subst e
      refine ⟨1, wbNames, _, z, .obj _ _ _, zw.cls, ?_, ?_, r⟩
      · cases f <;> exact zw.nos _ (by decide +kernel)
      · cases f <;> rfl)
end N
set_option Elab.async false
set_option linter.all false
set_option maxRecDepth 100000
set_option maxHeartbeats 4000000
namespace N
open PySem PySem.Spec PyProof.Rows L2
def rSetL (K : PySem.W.Frag) (w : World) : List V → Hp → VK → Prop := fun xs H Q => ∃ (l : Addr) (ns : List Int), xs = [.ref l] ∧ SqL K H l (ns.map V.int) ∧ ns.length < 4000 ∧ ∀ a c, c ≤ ns.length → H a = none → Q (.ref a) (upd H a (SetO w a (fun j => decide (j ∈ ns)) c))
end N
set_option Elab.async false
set_option linter.all false
set_option maxRecDepth 100000
set_option maxHeartbeats 4000000
set_option Elab.async false
set_option linter.all false
set_option maxRecDepth 100000
set_option maxHeartbeats 4000000
set_option Elab.async false
set_option linter.all false
set_option maxRecDepth 100000
namespace N
open PySem PySem.Spec PyProof.Rows L2
theorem getD_snoc_lt {α : Type} {l : List α} {a d : α} {i : Nat} (h : i < l.length) : (l ++ [a]).getD i d = l.getD i d := by
  rw [List.getD_eq_getElem?_getD, List.getD_eq_getElem?_getD, List.getElem?_append_left h]
theorem getD_snoc_eq {α : Type} {l : List α} {a d : α} {i : Nat} (h : i = l.length) : (l ++ [a]).getD i d = a := by
  subst h
  rw [List.getD_eq_getElem?_getD, List.getElem?_append_right (Nat.le_refl _)]
  simp
theorem rowsOk.init {rs : List (List Nat)} {r : List Nat} (h : rowsOk (rs ++ [r])) : rowsOk rs := by
  have := h.take rs.length
  simpa using this
theorem rowsOk.at_ {rs : List (List Nat)} (h : rowsOk rs) {i : Nat} (hi : i < rs.length) : (rs.getD i []).Pairwise (· < ·) ∧ ∀ k ∈ rs.getD i [], k < i :=
  h.asc i _ (by rw [List.getD_eq_getElem?_getD, List.getElem?_eq_getElem hi]; rfl)
theorem bens_at {rs : List (List Nat)} : rowsOk rs → ∀ {i : Nat}, i < rs.length → (bensF rs).getD i [] = ascN (rs.getD i [] ++ ((rs.getD i []).map fun k => (bensF rs).getD k []).flatten) := by
  induction rs using snoc_ind with
  | h0 => intro _ i h; cases h
  | h1 rs r ih =>
    intro ok i hi
    rw [bensF_snoc]
    have hl := bensF_len rs
    rw [List.length_append] at hi
    have hi : i < rs.length + 1 := hi
    rcases Nat.lt_or_eq_of_le (Nat.le_of_lt_succ hi) with h | h
    · rw [getD_snoc_lt (by omega), getD_snoc_lt h, ih ok.init h]
      congr 3
      refine List.map_congr_left fun k hk => ?_
      have := (ok.init.at_ h).2 k hk
      rw [getD_snoc_lt (by omega)]
    · rw [getD_snoc_eq (by omega), getD_snoc_eq h]
      congr 3
      refine List.map_congr_left fun k hk => ?_
      have := (ok.asc rs.length r (by simp)).2 k hk
      rw [getD_snoc_lt (by omega)]
theorem bens_mem {rs : List (List Nat)} (ok : rowsOk rs) {i x : Nat} (hi : i < rs.length) : x ∈ (bensF rs).getD i [] ↔ x ∈ rs.getD i [] ∨ ∃ k ∈ rs.getD i [], x ∈ (bensF rs).getD k [] := by
  rw [bens_at ok hi, mem_ascN, List.mem_append, List.mem_flatten]
  refine or_congr Iff.rfl ⟨fun ⟨l, h1, h2⟩ => ?_, fun ⟨k, h1, h2⟩ => ⟨_, List.mem_map.mpr ⟨k, h1, rfl⟩, h2⟩⟩
  obtain ⟨k, h3, rfl⟩ := List.mem_map.mp h1
  exact ⟨k, h3, h2⟩
theorem bens_lt {rs : List (List Nat)} (ok : rowsOk rs) {i x : Nat} (hi : i < rs.length) (h : x ∈ (bensF rs).getD i []) : x < i :=
  bensF_low ok i _ (by rw [List.getD_eq_getElem?_getD, List.getElem?_eq_getElem (by rw [bensF_len]; exact hi)]; rfl) x h
theorem bens_trans {rs : List (List Nat)} (ok : rowsOk rs) {x k : Nat} : ∀ (i : Nat), i < rs.length → k ∈ (bensF rs).getD i [] → x ∈ (bensF rs).getD k [] → x ∈ (bensF rs).getD i [] := by
  intro i
  induction i using Nat.strongRecOn with
  | ind i ih =>
    intro hi h hx
    rcases (bens_mem ok hi).mp h with h1 | ⟨q, h1, h2⟩
    · exact (bens_mem ok hi).mpr (.inr ⟨k, h1, hx⟩)
    · have hq := (ok.at_ hi).2 q h1
      exact (bens_mem ok hi).mpr (.inr ⟨q, h1, ih q hq (by omega) h2 hx⟩)
theorem bens_row {rs : List (List Nat)} (ok : rowsOk rs) {i x k : Nat} (hi : i < rs.length) (h : k ∈ (bensF rs).getD i []) (hx : x ∈ rs.getD k []) : x ∈ (bensF rs).getD i [] := by
  have := bens_lt ok hi h
  exact bens_trans ok i hi h ((bens_mem ok (by omega)).mpr (.inl hx))
/-- the ways, gone one by one -/
structure WW (rs : List (List Nat)) (i : Nat) (met wait : List Nat) : Prop where
  nd : met.Nodup
  ms : ∀ x ∈ met, x ∈ (bensF rs).getD i []
  ws : ∀ x ∈ wait, x ∈ (bensF rs).getD i []
  top : ∀ k ∈ rs.getD i [], k ∈ met ∨ k ∈ wait
  cl : ∀ m ∈ met, ∀ k ∈ rs.getD m [], k ∈ met ∨ k ∈ wait
theorem WW.start {rs : List (List Nat)} (ok : rowsOk rs) {i : Nat} (hi : i < rs.length) : WW rs i [] (rs.getD i []) :=
  ⟨List.nodup_nil, by simp, fun x hx => (bens_mem ok hi).mpr (.inl hx), fun k hk => .inr hk, by simp⟩
theorem WW.new {rs : List (List Nat)} (ok : rowsOk rs) {i k : Nat} {met wait : List Nat} (hi : i < rs.length) (w : WW rs i met (wait ++ [k])) (h : k ∉ met) : WW rs i (met ++ [k]) (wait ++ rs.getD k []) := by
  have hk := w.ws k (by simp)
  have mv : ∀ x, x ∈ met ∨ x ∈ wait ++ [k] → x ∈ met ++ [k] ∨ x ∈ wait ++ rs.getD k [] := fun x hx => by
    simp only [List.mem_append, List.mem_singleton] at hx ⊢
    rcases hx with h | h | h
    · exact .inl (.inl h)
    · exact .inr (.inl h)
    · exact .inl (.inr h)
  refine ⟨?_, fun x hx => ?_, fun x hx => ?_, fun x hx => mv x (w.top x hx), fun m hm x hx => ?_⟩
  · rw [List.nodup_append]
    refine ⟨w.nd, by simp, fun a ha b hb e => ?_⟩
    rw [List.mem_singleton] at hb
    subst hb e
    exact h ha
  · rcases List.mem_append.mp hx with h1 | h1
    · exact w.ms x h1
    · rw [List.mem_singleton] at h1
      exact h1 ▸ hk
  · rcases List.mem_append.mp hx with h1 | h1
    · exact w.ws x (by simp [h1])
    · exact bens_row ok hi hk h1
  · rcases List.mem_append.mp hm with h1 | h1
    · exact mv x (w.cl m h1 x hx)
    · rw [List.mem_singleton] at h1
      subst h1
      exact .inr (List.mem_append_right _ hx)
theorem WW.few {rs : List (List Nat)} (ok : rowsOk rs) {i : Nat} {met wait : List Nat} (hi : i < rs.length) (w : WW rs i met wait) : met.length ≤ i :=
  low_len w.nd fun x hx => bens_lt ok hi (w.ms x hx)
theorem rowsOk.nil : rowsOk [] := ⟨fun i r h => by simp at h, by simp⟩
end N
set_option Elab.async false
set_option linter.all false
set_option maxRecDepth 100000
namespace N
open PySem PySem.Spec PyProof.Rows L2
def allV (rs : List (List Nat)) (vs : List Bool) : List Bool := rs.foldl (fun acc r => acc ++ [r.all fun k => vs.getD k false && acc.getD k false]) []
theorem allV_snoc (rs : List (List Nat)) (r : List Nat) (vs : List Bool) : allV (rs ++ [r]) vs = allV rs vs ++ [r.all fun k => vs.getD k false && (allV rs vs).getD k false] := by
  unfold allV
  rw [List.foldl_append]
  rfl
theorem allV_len (rs : List (List Nat)) (vs : List Bool) : (allV rs vs).length = rs.length := by
  induction rs using snoc_ind with
  | h0 => rfl
  | h1 rs r ih => rw [allV_snoc, List.length_append, List.length_append, ih]; rfl
theorem allV_row {rs : List (List Nat)} {vs : List Bool} : rowsOk rs → ∀ {i : Nat}, i < rs.length → (allV rs vs).getD i false = (rs.getD i []).all fun k => vs.getD k false && (allV rs vs).getD k false := by
  induction rs using snoc_ind with
  | h0 => intro _ i h; cases h
  | h1 rs r ih =>
    intro ok i hi
    rw [allV_snoc]
    have hl := allV_len rs vs
    rw [List.length_append] at hi
    have hi : i < rs.length + 1 := hi
    have cong : ∀ (l : List Nat), (∀ k ∈ l, k < rs.length) → (l.all fun k => vs.getD k false && (allV rs vs).getD k false) = l.all fun k => vs.getD k false && (allV rs vs ++ [r.all fun k => vs.getD k false && (allV rs vs).getD k false]).getD k false := fun l h => by
      rw [Bool.eq_iff_iff, List.all_eq_true, List.all_eq_true]
      refine forall_congr' fun k => forall_congr' fun hk => ?_
      rw [getD_snoc_lt (by have := h k hk; omega)]
    rcases Nat.lt_or_eq_of_le (Nat.le_of_lt_succ hi) with h | h
    · rw [getD_snoc_lt (by omega), getD_snoc_lt h, ih ok.init h]
      exact cong _ fun k hk => by have := (ok.init.at_ h).2 k hk; omega
    · rw [getD_snoc_eq (by omega), getD_snoc_eq h]
      exact cong _ fun k hk => (ok.asc rs.length r (by simp)).2 k hk
theorem allV_at {rs : List (List Nat)} {vs : List Bool} (ok : rowsOk rs) : ∀ i : Nat, i < rs.length → (allV rs vs).getD i false = ((bensF rs).getD i []).all fun k => vs.getD k false := by
  intro i
  induction i using Nat.strongRecOn with
  | ind i ih =>
    intro hi
    rw [allV_row ok hi, Bool.eq_iff_iff, List.all_eq_true, List.all_eq_true]
    constructor
    · intro h x hx
      rcases (bens_mem ok hi).mp hx with h1 | ⟨k, h1, h2⟩
      · have := h x h1
        rw [Bool.and_eq_true] at this
        exact this.1
      · have hk := (ok.at_ hi).2 k h1
        have := h k h1
        rw [Bool.and_eq_true, ih k hk (by omega), List.all_eq_true] at this
        exact this.2 x h2
    · intro h k hk
      have hki := (ok.at_ hi).2 k hk
      rw [Bool.and_eq_true, ih k hki (by omega), List.all_eq_true]
      exact ⟨h k ((bens_mem ok hi).mpr (.inl hk)), fun x hx => h x ((bens_mem ok hi).mpr (.inr ⟨k, hk, hx⟩))⟩
/-- the values of a formula at the points -/
def Wb.vals (w : Wb) : Fm → List Bool
  | .at c => w.atoms.map fun s => decide (c ∈ lets s)
  | .no => w.below.map fun _ => false
  | .imp a b => List.zipWith (fun x y => !x || y) (w.vals a) (w.vals b)
  | .all a => allV w.below (w.vals a)
theorem Wb.vals_len {w : Wb} (h : w.atoms.length = w.below.length) : ∀ f : Fm, (w.vals f).length = w.below.length
  | .at c => by unfold Wb.vals; rw [List.length_map, h]
  | .no => by unfold Wb.vals; rw [List.length_map]
  | .imp a b => by unfold Wb.vals; rw [List.length_zipWith, vals_len h a, vals_len h b, Nat.min_self]
  | .all a => by unfold Wb.vals; rw [allV_len]
end N
set_option Elab.async false
set_option linter.all false
set_option maxRecDepth 100000
set_option maxHeartbeats 4000000
set_option Elab.async false
set_option linter.all false
set_option maxRecDepth 100000
namespace N
open PySem PySem.Spec PyProof.Rows L2
theorem vals_at {w : Wb} (hw : w.ok) {f : Fm} {i : Nat} (hi : i < w.below.length) : (w.vals (.all f)).getD i false = ((bensF w.below).getD i []).all fun k => (w.vals f).getD k false := allV_at hw.rows i hi
theorem getD_map {α : Type} {β : Type} {f : α → β} {l : List α} {i : Nat} {d : α} {e : β} (h : i < l.length) : (l.map f).getD i e = f (l.getD i d) := by
  rw [List.getD_eq_getElem?_getD, List.getD_eq_getElem?_getD, List.getElem?_map, List.getElem?_eq_getElem h]
  rfl
theorem getD_zip {α β γ : Type} {f : α → β → γ} {l : List α} {m : List β} {i : Nat} {d : α} {e : β} {z : γ} (h : i < l.length) (h2 : i < m.length) : (List.zipWith f l m).getD i z = f (l.getD i d) (m.getD i e) := by
  rw [List.getD_eq_getElem?_getD, List.getD_eq_getElem?_getD, List.getD_eq_getElem?_getD, List.getElem?_zipWith, List.getElem?_eq_getElem h, List.getElem?_eq_getElem h2]
  rfl
section
variable {w : Wb} (hl : w.atoms.length = w.below.length)
include hl
theorem vals_imp {f g : Fm} {i : Nat} (hi : i < w.below.length) : (w.vals (.imp f g)).getD i false = (!(w.vals f).getD i false || (w.vals g).getD i false) := by
  show (List.zipWith _ _ _).getD i false = _
  rw [getD_zip (d := false) (e := false) (by rw [Wb.vals_len hl]; exact hi) (by rw [Wb.vals_len hl]; exact hi)]
theorem vals_no {i : Nat} (hi : i < w.below.length) : (w.vals .no).getD i false = false := by
  show (w.below.map fun _ => false).getD i false = false
  rw [getD_map (d := []) hi]
end
theorem okF10 {k : Nat} {f : Fm} (h : f.okL) (ht : f.ht ≤ 12) (hf : Fm.few k f) (hk : k ≤ 63) : f.okF := by
  refine ⟨h, ?_, Nat.lt_of_le_of_lt (hf.len h) (by omega)⟩
  have h1 := Fm.sz_ht f
  have h2 : 2 ^ f.ht ≤ 2 ^ 12 := Nat.pow_le_pow_right (by omega) ht
  have e : (2 : Nat) ^ 12 = 4096 := by decide
  omega
/-- drawn formulas -/
structure sm10 (f : Fm) : Prop where
  ok : f.okL
  ht : f.ht ≤ 5
theorem sm10.few {f : Fm} (h : sm10 f) : Fm.few 31 f := (Fm.few_ht f).up (by
  have : (2 : Nat) ^ f.ht ≤ 2 ^ 5 := Nat.pow_le_pow_right (by omega) h.ht
  omega)
theorem sm10.okF {f : Fm} (h : sm10 f) : f.okF := okF10 h.ok (Nat.le_trans h.ht (by decide)) h.few (by decide)
theorem sm10.imp {f g : Fm} (h : sm10 f) (k : sm10 g) : (Fm.imp f g).okF := okF10 ⟨h.ok, k.ok⟩ (by have := h.ht; have := k.ht; simp only [Fm.ht]; omega) (h.few.imp k.few) (by decide)
theorem sm10.all {f g : Fm} (h : sm10 f) (k : sm10 g) : (Fm.all (.imp f g)).okF :=
  okF10 (show (Fm.all (.imp f g)).okL from ⟨h.ok, k.ok⟩) (by have := h.ht; have := k.ht; simp only [Fm.ht]; omega) (h.few.imp k.few).all (by decide)
end N
set_option Elab.async false
set_option linter.all false
set_option maxRecDepth 100000
namespace N
open PySem PySem.Spec PyProof.Rows L2
/-- the place of a number in a list -/
def idxL : List Nat → Nat → Nat
  | [], _ => 0
  | a :: l, x => if a = x then 0 else idxL l x + 1
/-- a point and all beneath it -/
def keptL (w : Wb) (k : Nat) : List Nat := (bensF w.below).getD k [] ++ [k]
def Wb.cut (w : Wb) (k : Nat) : Wb := ⟨(keptL w k).map fun o => (w.below.getD o []).map (idxL (keptL w k)), (keptL w k).map fun o => w.atoms.getD o ""⟩
def Wb.top (w : Wb) (s : Str) (r : List Nat) : Wb := ⟨w.below ++ [r], w.atoms ++ [s]⟩
def Wb.join (w u : Wb) : Wb := ⟨w.below ++ u.below.map fun r => r.map (w.below.length + ·), w.atoms ++ u.atoms⟩
end N
set_option Elab.async false
set_option linter.all false
set_option maxRecDepth 100000
set_option Elab.async false
set_option linter.all false
set_option maxRecDepth 100000
set_option Elab.async false
set_option linter.all false
set_option maxRecDepth 100000
set_option maxHeartbeats 4000000
set_option Elab.async false
set_option linter.all false
set_option maxRecDepth 100000
set_option maxHeartbeats 4000000
set_option Elab.async false
set_option linter.all false
set_option maxRecDepth 100000
set_option maxHeartbeats 1000000
namespace N
open PySem PySem.Spec PyProof.Rows L2
section
variable {X : Cx} {W : WX} {k j : Nat} {C f : Addr} {m : Str} {fd : FuncData} {ps ks : List Str} {sp : Sp} {pins : List (Addr × Obj)} {σ : L2.St} {H : Hp} {s : Shared} {a b o e : Expr} {es : List Expr} {ta tb to te : TE} {t tk : TA} {pos apos : Pos} {gV : List V → List V → List V} {kws : List Keyword}
theorem clsIn_of {K : PySem.W.Frag} {D : Addr} (h : PySem.W.hasDictIn K D = true) : (PySem.W.clsIn K D).isSome = true := by
  obtain ⟨cd, hc, _⟩ := PySem.W.any_some h
  rw [hc]
  rfl
end
end N
set_option Elab.async false
set_option linter.all false
set_option maxRecDepth 100000
set_option maxHeartbeats 1000000
set_option Elab.async false
set_option linter.all false
set_option maxRecDepth 100000
set_option maxHeartbeats 1000000
namespace N
open PySem PySem.Spec PyProof.Rows L2
open C8 (Cal Met Mak InsC pe_c pe_mt pe_mt0 pe_mk)
inductive ItP where
  | al | l (b : Fm) | r (a : Fm)
def wt : Fm → Nat
  | .at _ => 1
  | .no => 1
  | .imp a b => 3 + wt a + wt b
  | .all a => 2 + wt a
def wk : List ItP → Nat
  | [] => 0
  | .al :: K => 1 + wk K
  | .l b :: K => 2 + wt b + wk K
  | .r _ :: K => 1 + wk K
abbrev KA := List (ItP × Addr)
def itD : ItP × Addr → D
  | (.al, _) => .str "all"
  | (.l _, q) => .adr q
  | (.r _, q) => .adr q
def stk (K : KA) : List D := (K.map itD).reverse
end N
set_option Elab.async false
set_option linter.all false
set_option maxRecDepth 100000
set_option maxHeartbeats 1000000
namespace N
open PySem PySem.Spec PyProof.Rows L2
inductive Tok where
  | form | sg (c : Nat)
def cl (l : List Nat) : Nat := l.count 108
end N
set_option Elab.async false
set_option linter.all false
set_option maxRecDepth 100000
namespace N
open PySem PySem.Spec PyProof.Rows L2
/-- the letters at a point, some of them by values -/
def keepL (ks : List Nat) (s : Str) : List Nat := (lets s).filter fun c => !decide (c ∈ ks)
def putL (vs : List (Nat × List Bool)) (k : Nat) : List Nat := (vs.filter fun p => p.2.getD k false).map (·.1)
def markS (vs : List (Nat × List Bool)) (k : Nat) (s : Str) : Str := ⟨(ascN (keepL (vs.map (·.1)) s ++ putL vs k)).toArray⟩
def markA (vs : List (Nat × List Bool)) (as : List Str) : List Str := (List.range as.length).map fun k => markS vs k (as.getD k "")
def valsT (w : Wb) (rs : List (Nat × Fm)) : List (Nat × List Bool) := rs.map fun p => (p.1, w.vals p.2)
def Wb.mark (w : Wb) (rs : List (Nat × Fm)) : Wb := ⟨w.below, markA (valsT w rs) w.atoms⟩
theorem valsT_keys (w : Wb) (rs : List (Nat × Fm)) : (valsT w rs).map (·.1) = rs.map (·.1) := by
  unfold valsT
  rw [List.map_map]
  rfl
end N
set_option Elab.async false
set_option linter.all false
set_option maxRecDepth 100000
set_option maxHeartbeats 1000000
namespace N
open PySem PySem.Spec PyProof.Rows L2
open C8 (Cal Met Mak InsC pe_c pe_mt pe_mt0 pe_mk)
def getA {α : Type} (as : List (NestedKey × Addr × α)) (k : NestedKey) : Option α := (as.find? fun z => decide (z.1 = k)).map (·.2.2)
section
variable {X : Cx} {pins : List (Addr × Obj)} {σ : L2.St} {H : Hp} {s : Shared} {p : Addr} {as : List (NestedKey × Addr × V)}
abbrev NkPd : List (NestedKey × Addr × V) → List (NestedKey × Addr × Value) → Prop := Paired (fun (a : NestedKey × Addr × V) (u : NestedKey × Addr × Value) => a.1 = u.1 ∧ a.2.1 = u.2.1 ∧ RelV a.2.2 u.2.2)
theorem NkPd.keys : ∀ {as : List (NestedKey × Addr × V)} {us : List (NestedKey × Addr × Value)}, NkPd as us → us.map (·.1) = as.map (·.1)
  | [], _, h => by cases h; rfl
  | a :: as, _, h => by
    cases h with
    | cons h1 h2 => rw [List.map_cons, List.map_cons, NkPd.keys h2, h1.1]
theorem NkPd.get {k : NestedKey} : ∀ {as : List (NestedKey × Addr × V)} {us : List (NestedKey × Addr × Value)}, NkPd as us → (atKey us k = none ∧ getA as k = none) ∨ ∃ q v, atKey us k = some q ∧ getA as k = some v ∧ RelV v q.2
  | [], _, h => by cases h; exact .inl ⟨rfl, rfl⟩
  | a :: as, _, h => by
    cases h with
    | cons h1 h2 =>
      rename_i u us
      obtain ⟨e1, e2, e3⟩ := h1
      unfold atKey getA
      rw [List.find?_cons, List.find?_cons, ← e1]
      by_cases e : a.1 = k
      · rw [decide_eq_true e]
        exact .inr ⟨_, _, rfl, rfl, e3⟩
      · rw [decide_eq_false e]
        exact NkPd.get h2
end
end N
set_option Elab.async false
set_option linter.all false
set_option maxRecDepth 100000
set_option maxHeartbeats 4000000
set_option Elab.async false
set_option linter.all false
set_option maxRecDepth 100000
set_option maxHeartbeats 4000000
set_option Elab.async false
set_option linter.all false
set_option maxRecDepth 100000
set_option maxHeartbeats 1000000
namespace N
open PySem PySem.Spec PyProof.Rows L2
/-- a class: the letters, the classes beneath, the height -/
abbrev Ent := Str × List Nat × Nat
def posE (es : List Ent) (s : Str) (r : List Nat) : Option Nat := es.findIdx? fun e => decide (e.1 = s ∧ e.2.1 = r)
def stepC (w : Wb) (st : List Ent × List Nat) (i : Nat) : List Ent × List Nat :=
  match posE st.1 (w.atoms.getD i "") (ascN (((bensF w.below).getD i []).map fun j => st.2.getD j 0)) with
  | some k => (st.1, st.2 ++ [k])
  | none => (st.1 ++ [(w.atoms.getD i "", ascN (((bensF w.below).getD i []).map fun j => st.2.getD j 0), (hgtF w.below).getD i 0)], st.2 ++ [st.1.length])
/-- the first points of a web -/
def webAt (es : List Ent) (w : Wb) (i : Nat) : List Ent × List Nat := (List.range i).foldl (stepC w) (es, [])
def webCl (es : List Ent) (w : Wb) : List Ent × List Nat := webAt es w w.below.length
def allC (ws : List Wb) : List Ent × List (List Nat) := ws.foldl (fun st w => ((webCl st.1 w).1, st.2 ++ [(webCl st.1 w).2])) ([], [])
theorem webAt_zero (es : List Ent) (w : Wb) : webAt es w 0 = (es, []) := rfl
theorem webAt_succ (es : List Ent) (w : Wb) (i : Nat) : webAt es w (i + 1) = stepC w (webAt es w i) i := by
  unfold webAt
  rw [List.range_succ, List.foldl_append]
  rfl
theorem stepC_old {w : Wb} {st : List Ent × List Nat} {i k : Nat} (h : posE st.1 (w.atoms.getD i "") (ascN (((bensF w.below).getD i []).map fun j => st.2.getD j 0)) = some k) : stepC w st i = (st.1, st.2 ++ [k]) := by
  unfold stepC
  rw [h]
theorem stepC_new {w : Wb} {st : List Ent × List Nat} {i : Nat} (h : posE st.1 (w.atoms.getD i "") (ascN (((bensF w.below).getD i []).map fun j => st.2.getD j 0)) = none) : stepC w st i = (st.1 ++ [(w.atoms.getD i "", ascN (((bensF w.below).getD i []).map fun j => st.2.getD j 0), (hgtF w.below).getD i 0)], st.2 ++ [st.1.length]) := by
  unfold stepC
  rw [h]
theorem webAt_len (es : List Ent) (w : Wb) : ∀ i, (webAt es w i).2.length = i ∧ (webAt es w i).1.length ≤ es.length + i
  | 0 => ⟨rfl, Nat.le_refl _⟩
  | i + 1 => by
    have ⟨h1, h2⟩ := webAt_len es w i
    rw [webAt_succ]
    cases e : posE (webAt es w i).1 (w.atoms.getD i "") (ascN (((bensF w.below).getD i []).map fun j => (webAt es w i).2.getD j 0)) with
    | some k =>
      rw [stepC_old e]
      simp only [List.length_append, List.length_cons, List.length_nil]
      omega
    | none =>
      rw [stepC_new e]
      simp only [List.length_append, List.length_cons, List.length_nil]
      omega
theorem allC_snoc (ws : List Wb) (w : Wb) : allC (ws ++ [w]) = ((webCl (allC ws).1 w).1, (allC ws).2 ++ [(webCl (allC ws).1 w).2]) := by
  unfold allC
  rw [List.foldl_append]
  rfl
theorem posE_snoc {es : List Ent} {s : Str} {r : List Nat} (h : Nat) (hn : posE es s r = none) : posE (es ++ [(s, r, h)]) s r = some es.length := by
  unfold posE at hn ⊢
  rw [List.findIdx?_append, hn]
  simp
end N
set_option Elab.async false
set_option linter.all false
set_option maxRecDepth 100000
set_option maxHeartbeats 1000000
namespace N
open PySem PySem.Spec PyProof.Rows L2
theorem allC_len (ws : List Wb) : (allC ws).2.length = ws.length := by
  induction ws using snoc_ind with
  | h0 => rfl
  | h1 ws w ih => rw [allC_snoc, List.length_append, List.length_append, ih]; rfl
end N
set_option Elab.async false
set_option linter.all false
set_option maxRecDepth 100000
set_option maxHeartbeats 4000000
set_option Elab.async false
set_option linter.all false
set_option maxRecDepth 100000
set_option maxHeartbeats 1000000
namespace N
open PySem PySem.Spec PyProof.Rows L2
/-- the number of a point's class -/
def clsN (ws : List Wb) (i p : Nat) : Nat := ((allC ws).2.getD i []).getD p 0
end N
set_option Elab.async false
set_option linter.all false
set_option maxRecDepth 100000
set_option maxHeartbeats 1000000
namespace N
open PySem PySem.Spec PyProof.Rows L2
theorem posE_app {es : List Ent} {s : Str} {r : List Nat} {k : Nat} (l : List Ent) (h : posE es s r = some k) : posE (es ++ l) s r = some k := by
  unfold posE at h ⊢
  rw [List.findIdx?_append, h]
  rfl
/-- equal places, equal keys -/
theorem posE_inj {es : List Ent} {s s' : Str} {r r' : List Nat} {k : Nat} (h : posE es s r = some k) (h' : posE es s' r' = some k) : s = s' ∧ r = r' := by
  unfold posE at h h'
  obtain ⟨h1, h2, _⟩ := List.findIdx?_eq_some_iff_getElem.mp h
  obtain ⟨h3, h4, _⟩ := List.findIdx?_eq_some_iff_getElem.mp h'
  have h2 := of_decide_eq_true h2
  have h4 := of_decide_eq_true h4
  exact ⟨h2.1.symm.trans h4.1, h2.2.symm.trans h4.2⟩
/-- the key of a point, by numbers -/
def keyA (w : Wb) (ns : List Nat) (p : Nat) : Str × List Nat := (w.atoms.getD p "", ascN (((bensF w.below).getD p []).map fun j => ns.getD j 0))
theorem bens_low {w : Wb} (hw : w.ok) {p : Nat} : ∀ x ∈ (bensF w.below).getD p [], x < p := fun x hx => by
  rw [List.getD_eq_getElem?_getD] at hx
  cases e : (bensF w.below)[p]? with
  | none => rw [e] at hx; simp at hx
  | some b =>
    rw [e] at hx
    exact bensF_low hw.rows p b e x hx
theorem keyA_snoc {w : Wb} (hw : w.ok) (ns : List Nat) (k p : Nat) (hp : p ≤ ns.length) : keyA w (ns ++ [k]) p = keyA w ns p := by
  unfold keyA
  congr 2
  refine List.map_congr_left fun x hx => ?_
  have := bens_low hw x hx
  rw [List.getD_eq_getElem?_getD, List.getD_eq_getElem?_getD, List.getElem?_append_left (by omega)]
/-- what holds of the points that are met -/
theorem webAt_pos {w : Wb} (hw : w.ok) (es : List Ent) : ∀ i, (∃ l, (webAt es w i).1 = es ++ l) ∧ ∀ p, p < i → posE (webAt es w i).1 (keyA w (webAt es w i).2 p).1 (keyA w (webAt es w i).2 p).2 = some ((webAt es w i).2.getD p 0)
  | 0 => ⟨⟨[], by simp [webAt_zero]⟩, fun p h => absurd h (Nat.not_lt_zero _)⟩
  | i + 1 => by
    obtain ⟨⟨l, hl⟩, hp⟩ := webAt_pos hw es i
    obtain ⟨n1, n2⟩ := webAt_len es w i
    rw [webAt_succ]
    have e0 : (w.atoms.getD i "", ascN (((bensF w.below).getD i []).map fun j => (webAt es w i).2.getD j 0)) = keyA w (webAt es w i).2 i := rfl
    cases e : posE (webAt es w i).1 (w.atoms.getD i "") (ascN (((bensF w.below).getD i []).map fun j => (webAt es w i).2.getD j 0)) with
    | some k =>
      rw [stepC_old e]
      refine ⟨⟨l, hl⟩, fun p hlt => ?_⟩
      show posE (webAt es w i).1 (keyA w ((webAt es w i).2 ++ [k]) p).1 (keyA w ((webAt es w i).2 ++ [k]) p).2 = some (((webAt es w i).2 ++ [k]).getD p 0)
      rw [keyA_snoc hw _ _ _ (by omega)]
      by_cases h : p < i
      · rw [hp p h, List.getD_eq_getElem?_getD, List.getD_eq_getElem?_getD, List.getElem?_append_left (by omega)]
      · have h : p = i := by omega
        subst h
        rw [List.getD_eq_getElem?_getD, List.getElem?_append_right (by omega), n1]
        simp only [Nat.sub_self, List.getElem?_cons_zero, Option.getD_some]
        exact e
    | none =>
      rw [stepC_new e]
      refine ⟨⟨l ++ [_], by rw [hl, List.append_assoc]⟩, fun p hlt => ?_⟩
      show posE ((webAt es w i).1 ++ [_]) (keyA w ((webAt es w i).2 ++ [_]) p).1 (keyA w ((webAt es w i).2 ++ [_]) p).2 = some (((webAt es w i).2 ++ [_]).getD p 0)
      rw [keyA_snoc hw _ _ _ (by omega)]
      by_cases h : p < i
      · rw [posE_app _ (hp p h), List.getD_eq_getElem?_getD, List.getD_eq_getElem?_getD, List.getElem?_append_left (by omega)]
      · have h : p = i := by omega
        subst h
        rw [List.getD_eq_getElem?_getD (l := (webAt es w p).2 ++ [(webAt es w p).1.length]), List.getElem?_append_right (by omega), n1]
        simp only [Nat.sub_self, List.getElem?_cons_zero, Option.getD_some]
        exact posE_snoc _ e
theorem allC_pos (ws : List Wb) (hws : ∀ w ∈ ws, w.ok) : ∀ (i : Nat) (w : Wb) (p : Nat), ws[i]? = some w → p < w.below.length → posE (allC ws).1 (keyA w ((allC ws).2.getD i []) p).1 (keyA w ((allC ws).2.getD i []) p).2 = some (clsN ws i p) := by
  induction ws using snoc_ind with
  | h0 => intro i w p h; simp at h
  | h1 ws v ih =>
    intro i w p h hp
    have hl := allC_len ws
    have ih := ih fun w hw => hws w (List.mem_append_left _ hw)
    have hv := hws v (by simp)
    obtain ⟨⟨l, hl2⟩, h2⟩ := webAt_pos hv (allC ws).1 v.below.length
    unfold clsN
    rw [allC_snoc]
    by_cases hi : i < ws.length
    · rw [List.getElem?_append_left hi] at h
      have e : ((allC ws).2 ++ [(webCl (allC ws).1 v).2]).getD i [] = (allC ws).2.getD i [] := by
        rw [List.getD_eq_getElem?_getD, List.getD_eq_getElem?_getD, List.getElem?_append_left (by omega)]
      show posE (webCl (allC ws).1 v).1 (keyA w (((allC ws).2 ++ [(webCl (allC ws).1 v).2]).getD i []) p).1 (keyA w (((allC ws).2 ++ [(webCl (allC ws).1 v).2]).getD i []) p).2 = some ((((allC ws).2 ++ [(webCl (allC ws).1 v).2]).getD i []).getD p 0)
      rw [e]
      have : (webCl (allC ws).1 v).1 = (allC ws).1 ++ l := hl2
      rw [this]
      exact posE_app _ (ih i w p h hp)
    · rw [List.getElem?_append_right (by omega)] at h
      have hi2 : i = ws.length := by
        rcases Nat.lt_or_ge (i - ws.length) 1 with q | q
        · omega
        · rw [List.getElem?_eq_none (by simpa using q)] at h
          cases h
      subst hi2
      have h : v = w := by simpa using h
      subst h
      have e : ((allC ws).2 ++ [(webCl (allC ws).1 v).2]).getD ws.length [] = (webCl (allC ws).1 v).2 := by
        rw [List.getD_eq_getElem?_getD, List.getElem?_append_right (by omega), hl]
        simp
      show posE (webCl (allC ws).1 v).1 (keyA v (((allC ws).2 ++ [(webCl (allC ws).1 v).2]).getD ws.length []) p).1 (keyA v (((allC ws).2 ++ [(webCl (allC ws).1 v).2]).getD ws.length []) p).2 = some ((((allC ws).2 ++ [(webCl (allC ws).1 v).2]).getD ws.length []).getD p 0)
      rw [e]
      exact h2 p hp
/-- two points have one class where the letters and the classes beneath are the same -/
theorem cls_iff {ws : List Wb} (hws : ∀ w ∈ ws, w.ok) {i j p q : Nat} {w v : Wb} (hi : ws[i]? = some w) (hj : ws[j]? = some v) (hp : p < w.below.length) (hq : q < v.below.length) :
    clsN ws i p = clsN ws j q ↔ w.atoms.getD p "" = v.atoms.getD q "" ∧ ∀ x, (∃ a ∈ (bensF w.below).getD p [], clsN ws i a = x) ↔ (∃ b ∈ (bensF v.below).getD q [], clsN ws j b = x) := by
  have h1 := allC_pos ws hws i w p hi hp
  have h2 := allC_pos ws hws j v q hj hq
  have asc : ∀ {a b : List Nat}, ascN a = ascN b ↔ ∀ x, x ∈ a ↔ x ∈ b := fun {a b} => by
    constructor
    · intro e x
      rw [← mem_ascN, e, mem_ascN]
    · intro h
      exact ascN_ext (asc_ascN a) (asc_ascN b) fun x => by rw [mem_ascN, mem_ascN, h]
  have mm : ∀ (w : Wb) (i p x : Nat), x ∈ (((bensF w.below).getD p []).map fun j => ((allC ws).2.getD i []).getD j 0) ↔ ∃ a ∈ (bensF w.below).getD p [], clsN ws i a = x := fun w i p x => by
    rw [List.mem_map]
    exact Iff.rfl
  constructor
  · intro e
    rw [e] at h1
    obtain ⟨g1, g2⟩ := posE_inj h1 h2
    refine ⟨g1, fun x => ?_⟩
    rw [← mm, ← mm]
    exact asc.mp g2 x
  · rintro ⟨g1, g2⟩
    have e1 : (keyA w ((allC ws).2.getD i []) p).1 = (keyA v ((allC ws).2.getD j []) q).1 := g1
    have e2 : (keyA w ((allC ws).2.getD i []) p).2 = (keyA v ((allC ws).2.getD j []) q).2 := asc.mpr fun x => by rw [mm, mm]; exact g2 x
    rw [e1, e2, h2] at h1
    exact (Option.some.inj h1).symm
end N
set_option Elab.async false
set_option linter.all false
set_option maxRecDepth 100000
set_option maxHeartbeats 1000000
namespace N
open PySem PySem.Spec PyProof.Rows L2
structure Bis (u w : Wb) (R : Nat → Nat → Prop) : Prop where
  dom : ∀ i p, R i p → i < u.below.length ∧ p < w.below.length
  at_ : ∀ i p, R i p → u.atoms.getD i "" = w.atoms.getD p ""
  forth : ∀ i p, R i p → ∀ a ∈ (bensF u.below).getD i [], ∃ b ∈ (bensF w.below).getD p [], R a b
  back : ∀ i p, R i p → ∀ b ∈ (bensF w.below).getD p [], ∃ a ∈ (bensF u.below).getD i [], R a b
theorem vals_atom {w : Wb} (hw : w.ok) {c i : Nat} (hi : i < w.below.length) : (w.vals (.at c)).getD i false = decide (c ∈ lets (w.atoms.getD i "")) := by
  have hl := hw.len
  show (w.atoms.map fun s => decide (c ∈ lets s)).getD i false = _
  rw [getD_map (f := fun s : PySem.Str => decide (c ∈ lets s)) (l := w.atoms) (d := ("" : PySem.Str)) (by omega)]
section
variable {u w : Wb} {R : Nat → Nat → Prop} (hu : u.ok) (hw : w.ok) (B : Bis u w R)
include hu hw B
theorem Bis.vals : ∀ (f : Fm) (i p : Nat), R i p → (u.vals f).getD i false = (w.vals f).getD p false
  | .at c, i, p, r => by
    obtain ⟨h1, h2⟩ := B.dom i p r
    rw [vals_atom hu h1, vals_atom hw h2, B.at_ i p r]
  | .no, i, p, r => by
    obtain ⟨h1, h2⟩ := B.dom i p r
    rw [vals_no hu.len h1, vals_no hw.len h2]
  | .imp f g, i, p, r => by
    obtain ⟨h1, h2⟩ := B.dom i p r
    rw [vals_imp hu.len h1, vals_imp hw.len h2, Bis.vals f i p r, Bis.vals g i p r]
  | .all f, i, p, r => by
    obtain ⟨h1, h2⟩ := B.dom i p r
    rw [vals_at hu h1, vals_at hw h2, Bool.eq_iff_iff, List.all_eq_true, List.all_eq_true]
    constructor
    · intro h b hb
      obtain ⟨a, ha, r2⟩ := B.back i p r b hb
      rw [← Bis.vals f a b r2]
      exact h a ha
    · intro h a ha
      obtain ⟨b, hb, r2⟩ := B.forth i p r a ha
      rw [Bis.vals f a b r2]
      exact h b hb
theorem Bis.cls {i p : Nat} (r : R i p) : clsN [u, w] 0 i = clsN [u, w] 1 p := by
  have hws : ∀ x ∈ [u, w], x.ok := by simp [hu, hw]
  let Q : Nat → Nat → Nat → Nat → Prop := fun i p j q => i = 0 ∧ j = 1 ∧ R p q
  have key : ∀ m p q, p < m → R p q → clsN [u, w] 0 p = clsN [u, w] 1 q := by
    intro m
    induction m with
    | zero => intro p q h; exact absurd h (Nat.not_lt_zero _)
    | succ m ih =>
      intro p q hm r
      obtain ⟨h1, h2⟩ := B.dom p q r
      refine (cls_iff hws (i := 0) (j := 1) rfl rfl h1 h2).mpr ⟨B.at_ p q r, fun x => ⟨?_, ?_⟩⟩
      · rintro ⟨a, ha, e⟩
        obtain ⟨b, hb, r2⟩ := B.forth p q r a ha
        have := bens_low hu a ha
        exact ⟨b, hb, by rw [← e, ih a b (by omega) r2]⟩
      · rintro ⟨b, hb, e⟩
        obtain ⟨a, ha, r2⟩ := B.back p q r b hb
        have := bens_low hu a ha
        exact ⟨a, ha, by rw [← e, ih a b (by omega) r2]⟩
  exact key (i + 1) i p (Nat.lt_succ_self _) r
end
/-- what is marked at a point -/
theorem lets_markS {vs : List (Nat × List Bool)} {k : Nat} {s : Str} {c : Nat} : c ∈ lets (markS vs k s) ↔ (c ∈ lets s ∧ c ∉ vs.map (·.1)) ∨ ∃ x ∈ vs, x.1 = c ∧ x.2.getD k false = true := by
  show c ∈ ascN _ ↔ _
  rw [mem_ascN, List.mem_append]
  refine or_congr ?_ ?_
  · unfold keepL
    rw [List.mem_filter]
    simp
  · unfold putL
    rw [List.mem_map]
    constructor
    · rintro ⟨x, hx, e⟩
      obtain ⟨h1, h2⟩ := List.mem_filter.mp hx
      exact ⟨x, h1, e, h2⟩
    · rintro ⟨x, hx, e, h⟩
      exact ⟨x, List.mem_filter.mpr ⟨hx, h⟩, e⟩
theorem markS_ext {vs us : List (Nat × List Bool)} {k j : Nat} {s : Str} (hk : ∀ c, c ∈ vs.map (·.1) ↔ c ∈ us.map (·.1)) (hv : ∀ c, (∃ x ∈ vs, x.1 = c ∧ x.2.getD k false = true) ↔ ∃ x ∈ us, x.1 = c ∧ x.2.getD j false = true) : markS vs k s = markS us j s := by
  have e : ascN (keepL (vs.map (·.1)) s ++ putL vs k) = ascN (keepL (us.map (·.1)) s ++ putL us j) := ascN_ext (asc_ascN _) (asc_ascN _) fun c => by
    have h1 := lets_markS (vs := vs) (k := k) (s := s) (c := c)
    have h2 := lets_markS (vs := us) (k := j) (s := s) (c := c)
    have h1 : c ∈ ascN (keepL (vs.map (·.1)) s ++ putL vs k) ↔ _ := h1
    have h2 : c ∈ ascN (keepL (us.map (·.1)) s ++ putL us j) ↔ _ := h2
    rw [h1, h2, hk c, hv c]
  unfold markS
  rw [e]
theorem mark_at {w : Wb} {rs : List (Nat × Fm)} {i : Nat} (hi : i < w.atoms.length) : (w.mark rs).atoms.getD i "" = markS (valsT w rs) i (w.atoms.getD i "") := by
  show (markA (valsT w rs) w.atoms).getD i "" = _
  unfold markA
  rw [List.getD_eq_getElem?_getD, List.getElem?_map, List.getElem?_range hi]
  rfl
/-- marks at points that see the same -/
theorem mark_pts {u w : Wb} {i p : Nat} {rs qs : List (Nat × Fm)} (hi : i < u.atoms.length) (hp : p < w.atoms.length) (ha : u.atoms.getD i "" = w.atoms.getD p "") (hm : ∀ x, x ∈ rs ↔ x ∈ qs) (hv : ∀ f, (u.vals f).getD i false = (w.vals f).getD p false) : (u.mark rs).atoms.getD i "" = (w.mark qs).atoms.getD p "" := by
  rw [mark_at hi, mark_at hp, ha]
  refine markS_ext (fun c => ?_) fun c => ?_
  · rw [valsT_keys, valsT_keys, List.mem_map, List.mem_map]
    exact ⟨fun ⟨x, hx, e⟩ => ⟨x, (hm x).mp hx, e⟩, fun ⟨x, hx, e⟩ => ⟨x, (hm x).mpr hx, e⟩⟩
  · unfold valsT
    constructor
    · rintro ⟨y, hy, e, h⟩
      obtain ⟨x, hx, rfl⟩ := List.mem_map.mp hy
      exact ⟨_, List.mem_map.mpr ⟨x, (hm x).mp hx, rfl⟩, e, by rw [← hv]; exact h⟩
    · rintro ⟨y, hy, e, h⟩
      obtain ⟨x, hx, rfl⟩ := List.mem_map.mp hy
      exact ⟨_, List.mem_map.mpr ⟨x, (hm x).mpr hx, rfl⟩, e, by rw [hv]; exact h⟩
theorem Bis.mark {u w : Wb} {R : Nat → Nat → Prop} (hu : u.ok) (hw : w.ok) (B : Bis u w R) {rs qs : List (Nat × Fm)} (hm : ∀ x, x ∈ rs ↔ x ∈ qs) : Bis (u.mark rs) (w.mark qs) R :=
  ⟨B.dom, fun i p r => mark_pts (by rw [hu.len]; exact (B.dom i p r).1) (by rw [hw.len]; exact (B.dom i p r).2) (B.at_ i p r) hm fun f => B.vals hu hw f i p r, B.forth, B.back⟩
end N
set_option Elab.async false
set_option linter.all false
set_option maxRecDepth 100000
set_option maxHeartbeats 1000000
set_option Elab.async false
set_option linter.all false
set_option maxRecDepth 100000
set_option maxHeartbeats 1000000
set_option Elab.async false
set_option linter.all false
set_option maxRecDepth 100000
set_option maxHeartbeats 1000000
set_option Elab.async false
set_option linter.all false
set_option maxRecDepth 100000
set_option maxHeartbeats 1000000
namespace N
open PySem PySem.Spec PyProof.Rows L2
open C8 (Cal Met Mak InsC pe_c pe_mt pe_mt0 pe_mk)
open TL (numL numL_lt numL_step numL_digits numL_ne int_num split_join joinL tl_join join_eq tl_num)
/-- a number's text -/
def numS (n : Nat) : Str := Str.ofString (toString ((n : Nat) : Int))
/-- the word of the letters -/
def wordL (s : Str) : Str := if s = "" then "-" else s
def lineL (s : Str) (r : List Nat) : List Str := wordL s :: r.map numS
def lineS (s : Str) (r : List Nat) : Str := Txt.join " " (lineL s r)
def Wb.lines (w : Wb) : List Str := List.zipWith lineS w.atoms w.below
def Wb.text (w : Wb) : Str := Txt.join "\n" w.lines
structure LineOk (s : Str) (r : List Nat) : Prop where
  lets : letters s
  asc : (N.lets s).Pairwise (· < ·)
  few : r.length ≤ 63
  low : ∀ k ∈ r, k < 63
theorem LineOk.len {s : Str} {r : List Nat} (h : LineOk s r) : s.length ≤ 100 := letters_len h.lets h.asc
theorem LineOk.parts {s : Str} {r : List Nat} (h : LineOk s r) : (lineL s r).length ≤ 64 := by
  have := h.few
  simp [lineL]
  omega
theorem Wb.ok.line {w : Wb} (hw : w.ok) {i : Nat} {s : Str} {r : List Nat} (h1 : w.atoms[i]? = some s) (h2 : w.below[i]? = some r) : LineOk s r where
  lets := (hw.lets s (List.mem_of_getElem? h1)).1
  asc := (hw.lets s (List.mem_of_getElem? h1)).2
  few := by
    obtain ⟨a, b⟩ := hw.rows.asc i r h2
    have h3 := low_len (a.imp fun h => Nat.ne_of_lt h) b
    have := hw.rows.few
    have := (List.getElem?_eq_some_iff.mp h2).1
    omega
  low := fun k hk => by
    have h3 := (hw.rows.asc i r h2).2 k hk
    have := hw.rows.few
    have := (List.getElem?_eq_some_iff.mp h2).1
    omega
end N
set_option Elab.async false
set_option linter.all false
set_option maxRecDepth 100000
set_option maxHeartbeats 1000000
set_option Elab.async false
set_option linter.all false
set_option maxRecDepth 100000
set_option maxHeartbeats 1000000
set_option Elab.async false
set_option linter.all false
set_option maxRecDepth 100000
set_option maxHeartbeats 1000000
set_option Elab.async false
set_option linter.all false
set_option maxRecDepth 100000
set_option maxHeartbeats 1000000
namespace N
open PySem PySem.Spec PyProof.Rows L2
theorem some_of {α : Type} {l : List α} {i : Nat} {d : α} (h : i < l.length) : l[i]? = some (l.getD i d) := by
  rw [List.getD_eq_getElem?_getD, List.getElem?_eq_getElem h]
  rfl
end N
set_option Elab.async false
set_option linter.all false
set_option maxRecDepth 100000
set_option maxHeartbeats 4000000
set_option Elab.async false
set_option linter.all false
set_option maxRecDepth 100000
set_option maxHeartbeats 1000000
set_option Elab.async false
set_option linter.all false
set_option maxRecDepth 100000
set_option maxHeartbeats 1000000
namespace N
open PySem PySem.Spec PyProof.Rows L2
theorem Bis.symm {u w : Wb} {R : Nat → Nat → Prop} (B : Bis u w R) : Bis w u fun p i => R i p :=
  ⟨fun p i r => (B.dom i p r).symm, fun p i r => (B.at_ i p r).symm, fun p i r => B.back i p r, fun p i r => B.forth i p r⟩
end N
set_option Elab.async false
set_option linter.all false
set_option maxRecDepth 100000
set_option maxHeartbeats 1000000
set_option Elab.async false
set_option linter.all false
set_option maxRecDepth 100000
set_option maxHeartbeats 1000000
namespace N
open PySem PySem.Spec PyProof.Rows L2
theorem Den.weak {F : FmKit} {T : Kx} {H : Hp} {l : List D} {v : V} (h : Den F T H (.tupz l) v) : Den F T H (.tup l) v := by
  obtain ⟨a, xs, o, e, h1, _, k⟩ := h
  exact ⟨a, xs, e, .inl (.inr ⟨o, h1⟩), k⟩
end N
set_option Elab.async false
set_option linter.all false
set_option maxRecDepth 100000
set_option maxHeartbeats 1000000
set_option linter.all false
set_option Elab.async false
set_option linter.all false
set_option maxRecDepth 100000
set_option maxHeartbeats 1000000
set_option Elab.async false
set_option linter.all false
set_option maxRecDepth 100000
set_option maxHeartbeats 1000000
namespace N
open PySem PySem.Spec PyProof.Rows L2
structure Er0 (K : PySem.W.Frag) (mg : Str → Option Value) (x : Str) (C : Addr) : Prop where
  g : mg x = some (.ref C)
  e : PySem.W.excIn K C [.type "Exception", .type "BaseException", .type "object"] "Exception.__new__" = true
  k : PySem.W.keepIn K (.ref C) = true
  s : PySem.W.subIn K (.ref C) (.type "BaseException") = some true
  t : PySem.W.typeIn K (.ref C) = some (.type "type")
theorem pmk_er0 {X : Cx} {C : Addr} {x : Str} {p pos : Pos} (E : Er0 X.K X.mg x C) (hg : Gl X x) (hdb : (x == ("__debug__" : Str)) = false := by decide) :
    PMk X (.Call (.Name x p) [] [] pos) (fun _ H Q => Q (.ref C) none H) := by
  intro pins s σ H Q I h
  refine wpAny_Call_Name_kw (ld_glob I hg E.g ?_ hdb)
  refine PySem.W.callWith_K0 I.kIn E.k ?_
  obtain ⟨bm, N, nm, qn, bs, hdct, sn, sub, ab, col, dd, k0, k1, k2, k3, k5, mN, hC, hN, hni, T⟩ := exc_obj I.kIn E.e
  refine wpAny_call_exc_subT F.excBase_Exception T hC hN hni (fun h' e hm => ?_) (Nat.zero_le _)
  exact mk_of I hm (raises_own E.s E.t) h (I.hok.gone hm.new)
end N
set_option Elab.async false
set_option linter.all false
set_option maxRecDepth 100000
set_option maxHeartbeats 2000000
namespace N
open PySem PySem.Spec PyProof.Rows L2
/-- an exception object of a class, with its dict -/
def XvO (cls : Value) (d : Option Addr) (a : Addr) : HO := .ext fun h => ∃ (oe : Obj) (vs : Array Value), h.get? a = some oe ∧ Zc cls d oe ∧ oe.data = .fields vs
theorem xvO_ok {P : Program} {w : World} {H : Hp} {h : Heap} {a : Addr} {cls : Value} {d : Option Addr} {oe : Obj} {vs : Array Value} (e : h.get? a = some oe) (z : Zc cls d oe) (q : oe.data = .fields vs) : ObjOk P w H h a (XvO cls d a) :=
  ⟨⟨oe, vs, e, z, q⟩, ⟨oe, e⟩, fun _ _ ⟨o, v, e1, r⟩ k => ⟨o, v, k o e1, r⟩⟩
/-- what makes an exception, as a value -/
def tMkV (t : L2.St → Hp → XK → Prop) : TE := fun σ H Q => t σ H fun cls d H' => ∀ a, H' a = none → Q (.ref a) (upd H' a (XvO cls d a))
theorem pe_mkV {X : Cx} {e : Expr} {t : L2.St → Hp → XK → Prop} (he : PMk X e t) : PE X e (tMkV t) := by
  refine ⟨fun pins s σ H Q I h => ?_⟩
  refine wpAny_mono (he pins s σ H _ I h) (fun u s1 hu => ?_) fun _ _ x => x
  obtain ⟨a, oe, vs, sI, H', cls, d, rfl, J, k, hne, ha, hz, hd, h1, na, os, ag, r, q⟩ := hu
  have J2 := J.laidN (t' := s1.toks) (h' := s1.heap) k hne na (xvO_ok (cls := cls) (d := d) ha hz hd)
  exact ⟨.ref a, upd H' a (XvO cls d a), ⟨J2.ok, os.trans J2.os, ag, J2.base, J2.loc, J2.cell, J2.free, J2.freeC, J2.pin, J2.hok, J2.len⟩, rfl, q a na⟩
/-- the exception that a suite holds, if there is one: its address, class, dict -/
abbrev Hx := Option (Addr × Value × Option Addr)
def HxOk (X : Cx) (hx : Hx) : Prop := ∀ a cls d, hx = some (a, cls, d) → ∃ oe, (a, oe) ∈ X.pn ∧ Zc cls d oe ∧ ∃ vs, oe.data = .fields vs
theorem hx_none {X : Cx} : HxOk X none := fun _ _ _ e => nomatch e
theorem hx_some {X : Cx} {a : Addr} {cls : Value} {d : Option Addr} {oe : Obj} (hp : (a, oe) ∈ X.pn) (hz : Zc cls d oe) (hf : ∃ vs, oe.data = .fields vs) : HxOk X (some (a, cls, d)) := fun _ _ _ e => by
  cases e
  exact ⟨oe, hp, hz, hf⟩
/-- an exception is held, or is a value -/
def XAt (hx : Hx) (H : Hp) (a : Addr) (cls : Value) (d : Option Addr) : Prop := hx = some (a, cls, d) ∨ H a = some (XvO cls d a)
theorem XAt.obj {X : Cx} {hx : Hx} {pins : List (Addr × Obj)} {σ : L2.St} {H : Hp} {s : Shared} {a : Addr} {cls : Value} {d : Option Addr} (hk : HxOk X hx) (I : Inv X pins σ H s) (h : XAt hx H a cls d) : ∃ oe vs, s.heap.get? a = some oe ∧ Zc cls d oe ∧ oe.data = .fields vs := by
  rcases h with h | h
  · obtain ⟨oe, hp, hz, vs, hd⟩ := hk a cls d h
    exact ⟨oe, vs, (I.pin (a, oe) (List.mem_append_left _ hp)).1, hz, hd⟩
  · exact (I.hok a _ h).1
def tXU (K : PySem.W.Frag) (hx : Hx) (f : Str) (te : TE) : TE := fun σ H Q => te σ H fun x H1 => ∃ (a C dd : Addr) (fs : List (Str × V)) (v : V), x = .ref a ∧ XfC K C ∧ PySem.W.findIn K (.ref C) f = some none ∧ XAt hx H1 a (.ref C) (some dd) ∧ H1 dd = some (.xd fs) ∧ fs.lookup f = some v ∧ Q v H1
theorem pe_xU {X : Cx} {hx : Hx} {e : Expr} {te : TE} {pos : Pos} {n : Str} (hk : HxOk X hx) (he : PE X e te) (hb : attributeBase e n X.env (eval e X.env) = eval e X.env := by rfl) : PE X (.Attribute e n pos) (tXU X.K hx n te) := by
  refine ⟨fun pins s σ H Q I h => ?_⟩
  refine attr_of hb (thn (he.run pins s σ H _ I h) fun u s1 hh => ?_)
  obtain ⟨x, H1, I1, rx, a, C, dd, fs, v, ex, T, hno, hat, ea, l, q⟩ := hh
  subst ex
  obtain rfl : u = Value.ref a := rx
  obtain ⟨oe, vs, ha, hz, hd⟩ := hat.obj hk I1
  have hx : ObjOk X.prog X.w H1 s1.heap dd (.xd fs) := I1.hok dd _ ea
  obtain ⟨mA, hns, hr⟩ := hx
  obtain ⟨od, ho, hl⟩ := lookIn_ns hns
  obtain ⟨u, hu, ru⟩ := RelO.some_of (v := v) (o := mA n) (by rw [← l]; exact hr n)
  have J : PySem.W.InstAt s1.heap a oe C (some od) := ⟨ha, hz.1, by unfold PySem.W.notCls; rw [hd] <;> rfl, by rw [hz.2]; exact ho⟩
  exact HandSPX.exc_get I1.kIn J T.ga T.gg T.exC (PySem.W.findObj_own T.hdC hno rfl (by rw [hl, hu])) (handed_of ru) ⟨v, H1, I1.tok _, ru, q⟩
def rIsU (K : PySem.W.Frag) (hx : Hx) : List V → Hp → VK → Prop := fun xs H Q => ∃ (a : Addr) (c : V) (cv : Value) (r : Bool) (D : Addr) (d : Option Addr),
  xs = [.ref a, c] ∧ XAt hx H a (.ref D) d ∧ (d = none ∨ ∃ dd fs, d = some dd ∧ H dd = some (.xd fs)) ∧ ExcC K D ∧ (∀ u, RelV c u → u = cv) ∧ PySem.W.kitOne K (.ref D) cv = some r ∧ Q (.bl r) H
theorem call_isU {X : Cx} {hx : Hx} (hk : HxOk X hx) : CallR X (.builtin "isinstance") (rIsU X.K hx) := by
  intro pins s σ H xs us Q I r h
  obtain ⟨a, c, cv, b, D, d, rfl, hat, hd, C, hcv, e, q⟩ := h
  cases r with
  | cons rx rr =>
    cases rr with
    | cons rt rr =>
      cases rr
      cases rx
      have ec := hcv _ rt
      subst ec
      obtain ⟨oe, vs, ha, hz, hv⟩ := hat.obj hk I
      obtain ⟨od, J⟩ : ∃ od, PySem.W.InstAt s.heap a oe D od := by
        have nc : PySem.W.notCls oe = true := by unfold PySem.W.notCls; rw [hv] <;> rfl
        rcases hd with rfl | ⟨dd, fs, rfl, ed⟩
        · exact ⟨none, ha, hz.1, nc, by rw [hz.2]; trivial⟩
        · have hx : ObjOk X.prog X.w H s.heap dd (.xd fs) := I.hok dd _ ed
          obtain ⟨mA, hns, _⟩ := hx
          obtain ⟨od, ho, _⟩ := lookIn_ns hns
          exact ⟨some od, ha, hz.1, nc, by rw [hz.2]; exact ho⟩
      exact PySem.W.kia_one (PySem.W.kitx_exc (clsIn_of C.hd) C.hg C.hk C.hs C.ha C.hn C.ht C.hm) I.kIn J e (fun z => nomatch z) fun tk => ⟨.bl b, H, I.kept (t' := tk) fun _ _ z => z, rfl, q⟩
end N
set_option Elab.async false
set_option linter.all false
set_option maxRecDepth 100000
set_option maxHeartbeats 2000000
namespace XE
open PySem PySem.W PySem.Calls PySem.HandSPX
section
variable {prog : Program} {w : World} {A : Around} {E : Value → Shared → Prop} {R : Result → Shared → Prop} {h : Heap} {g : Array GenState} {d : Drawn} {t : Nat} {os : OsState} {M : Model}
variable {nm q : Str} {C N : Addr} {bs bm bmB : List Value} {hdct : Bool} {sn : List Str} {sub : List Value} {ab : Bool} {col : Option Bool} {dd : Option Addr} {k0 k1 k2 k3 k5 : Option Value} {B newId initId : String} {kws : List (Str × Value)}
theorem check_newK (F : ExcBaseFacts B newId initId bmB) (hT : ∀ X : String, bm.contains (.type X) = bmB.contains (.type X)) {Q : Unit → Shared → Prop}
    (hC : h.get? C = some (excClassObj nm q C N bs bm hdct sn sub ab col dd k0 k1 k2 k3 k5 newId)) (hq : Q () ⟨h, g, d, t, os⟩) : wpAny M A (checkBuiltinCall newId ⟨[.ref C], kws⟩) Q E ⟨h, g, d, t, os⟩ := by
  have hcont : (Value.ref C :: bm).contains (.type B) = true := by rw [List.contains_cons, hT, F.hasB, Bool.or_true]
  have hstar := F.noStar
  simp only [checkBuiltinCall, F.newKind, F.newSplit, F.newRow]
  repeat (first | refine wpAny_loadPart_at hC ?_ | (refine wpAny_isSubtype_exc hC ?_; rw [hcont]) | refine wpAny_staticBase_exc hC ?_ | refine wpAny_madeBy_exc hC ?_ | simp only [bne_self_eq_false, Bool.false_eq_true, if_false] | wp_step)
  exact hq
theorem new_ownK (F : ExcBaseFacts B newId initId bmB) (hT : ∀ X : String, bm.contains (.type X) = bmB.contains (.type X))
    (hC : h.get? C = some (excClassObj nm q C N bs bm hdct sn sub ab col dd k0 k1 k2 k3 k5 newId))
    (hq : R (.ok (.ret (.ref (h.objs.size + 1)))) ⟨(h.push { cls := .type "tuple", data := .seq #[] }).push
      { cls := .ref C, data := .fields #[.ref h.objs.size, .none, .none, .none, .bool false, .none] }, g, d, t, os⟩) :
    codeAny (model prog w) A (.builtin newId ⟨[.ref C], kws⟩) R ⟨h, g, d, t, os⟩ := by
  have hends := F.ends
  have hcB : (Value.ref C :: bm).contains (.type B) = true := by rw [List.contains_cons, hT, F.hasB, Bool.or_true]
  have hcA : (Value.ref C :: bm).contains (.type "AttributeError") = false := by rw [List.contains_cons, hT, F.noAttr]; rfl
  have hcN : (Value.ref C :: bm).contains (.type "NameError") = false := by rw [List.contains_cons, hT, F.noName]; rfl
  refine codeAny_builtinAt F.entry ?_
  unfold Builtin.«BaseException.__new__»
  refine wpAt_bind ?_
  show wpAt _ _ _ (stack >>= _) _ _ _
  refine wpAt_bind (wpAt_stack fun p below => wpAt_of_wpAny ?_)
  wp_walk
  refine wpAt_of_wpAny ?_
  rw [F.owner]
  repeat (first | with_reducible refine wpAny_madeHere_exc F.canon hC ?_ | with_reducible refine wpAny_loadPart_at hC ?_ | (with_reducible refine wpAny_isSubtype_exc hC ?_; first | rw [hcB] | rw [hcA] | rw [hcN]) | wp_step)
  show R _ _
  rw [Heap.size_push]
  exact hq
theorem type_call_ownK (F : ExcBaseFacts B newId initId bmB) (hT : ∀ X : String, bm.contains (.type X) = bmB.contains (.type X)) {fI : Addr} {Q : Fin → Shared → Prop}
    (hC : h.get? C = some (excClassObj nm q C N bs bm hdct sn sub ab col dd k0 k1 k2 k3 k5 newId))
    (hi : W.Looks (model prog w) h (typeLookup (.ref C) "__init__") (some (.ref fI))) (hb : ∀ self, W.Looks (model prog w) h (bindSpecial (.ref fI) self) (.ref fI, [self]))
    (hq : codeAny (model prog w) A (.call (.ref fI) ⟨[.ref (h.objs.size + 1)], kws⟩)
      (fun r s' => match r with | .ok (.ret v) => v = .none ∧ Q (.done (.ret (.ref (h.objs.size + 1)))) s' | .ok _ => False | .error e => E e s')
      ⟨(h.push (W.kdv_tup [])).push (excO C h.objs.size), g, d, t, os⟩) :
    wpAny (model prog w) A (Builtin.«type.__call__» ⟨[.ref C], kws⟩) Q E ⟨h, g, d, t, os⟩ := by
  repeat (first | with_reducible refine wpAny_loadPart_at hC ?_ | with_reducible refine wpAny_madeBy_exc hC ?_ | wp_step)
  refine codeAny_call_builtin_code (Code.quiet_builtin _ F.quiet) (check_newK F hT hC ?_)
  refine new_ownK F hT hC ?_
  show wpAny _ _ _ _ _ _
  have k : ∀ b o, h.get? b = some o → ((h.push (W.kdv_tup [])).push (excO C h.objs.size)).get? b = some o := fun b o e => Heap.get?_push_of_some _ (Heap.get?_push_of_some _ e)
  have hC₁ := k _ _ hC
  have hget : ((h.push (W.kdv_tup [])).push (excO C h.objs.size)).get? (h.objs.size + 1) = some (excO C h.objs.size) := by heap_get
  have hcC : (Value.ref C :: bm).contains (.ref C) = true := by simp
  have i1 := hi.keeps k
  have b1 := (hb (.ref (h.objs.size + 1))).keeps k
  unfold isInstance
  repeat (first | with_reducible refine wpAny_loadPart_at hget ?_ | (with_reducible refine wpAny_isSubtype_exc hC₁ ?_; rw [hcC]) | wp_step)
  show wpAny _ _ (typeLookup (.ref C) _) _ _ _
  refine i1.at ?_
  refine wpAny_holding (wpAny_bind (b1.at ?_))
  refine wpAny_bind (wpAny_call (codeAny_mono hq fun r s' z => ?_))
  rcases r with e | (v | _ | _ | _) <;> first | exact z | exact z.elim | skip
  obtain ⟨rfl, z⟩ := z
  first
    | exact wpAny_pure (wpAny_pure z)
    | (wp_walk; exact z)
theorem check_tcK {Q : Unit → Shared → Prop} (hC : h.get? C = some (excClassObj nm q C N bs bm hdct sn sub ab col dd k0 k1 k2 k3 k5 newId))
    (hq : Q () ⟨h, g, d, t, os⟩) : wpAny M A (checkBuiltinCall "type.__call__" ⟨[.ref C], kws⟩) Q E ⟨h, g, d, t, os⟩ := by
  have f3 := tc_sub
  have hT : (⟨h, g, d, t, os⟩ : Shared).TypeIs (.ref C) "type" := ⟨_, hC, rfl⟩
  simp only [checkBuiltinCall, tc_kind, tc_split]
  repeat (any_goals (first | assumption | with_reducible refine wpAny_loadPart_at hC ?_ | with_reducible refine wpAny_onRaise ?_ | with_reducible refine wpAny_map ?_ | wp_step))
theorem call_ownK (F : ExcBaseFacts B newId initId bmB) (hT : ∀ X : String, bm.contains (.type X) = bmB.contains (.type X)) {fI : Addr}
    (hC : h.get? C = some (excClassObj nm q C N bs bm hdct sn sub ab col dd k0 k1 k2 k3 k5 newId))
    (hi : W.Looks (model prog w) h (typeLookup (.ref C) "__init__") (some (.ref fI))) (hb : ∀ self, W.Looks (model prog w) h (bindSpecial (.ref fI) self) (.ref fI, [self]))
    (hq : codeAny (model prog w) (A.under (.builtin "type.__call__" ⟨[.ref C], kws⟩)) (.call (.ref fI) ⟨[.ref (h.objs.size + 1)], kws⟩) (W.InitBack (h.objs.size + 1) R)
      ⟨(h.push (W.kdv_tup [])).push (excO C h.objs.size), g, d, t, os⟩) :
    codeAny (model prog w) A (.call (.ref C) ⟨[], kws⟩) R ⟨h, g, d, t, os⟩ := by
  have f1 := tc_lookup
  have f2 := tc_bind (.ref C)
  have hTy : (⟨h, g, d, t, os⟩ : Shared).TypeIs (.ref C) "type" := ⟨_, hC, rfl⟩
  refine codeAny_of_tree ?_
  show wpAny _ _ (callAny (.ref C) _) _ _ _
  repeat (any_goals (first | assumption | with_reducible refine wpAny_loadPart_at hC ?_ | wp_step))
  refine ⟨rfl, ?_⟩
  refine codeAny_call_builtin_at (Code.quiet_builtin _ (by decide +kernel)) entry_typeCall (check_tcK hC (type_call_ownK F hT hC hi hb ?_))
  refine codeAny_mono hq fun r s' z => ?_
  rcases r with e | (v | _ | _ | _) <;> exact z
end
end XE
set_option Elab.async false
set_option linter.all false
set_option maxRecDepth 100000
set_option maxHeartbeats 2000000
namespace N
open PySem PySem.Spec PyProof.Rows L2
/-- an error class, made by position or by name -/
structure ErrU (P : Program) (w : World) (K : PySem.W.Frag) (mg : Str → Option Value) (base : Heap) (k : Nat) (x : Str) (C : Addr) (f : Str) : Prop where
  ex : ∃ (g : Addr) (fd : FuncData) (ps : List Str) (gg : List Value → List Value → List Value), ErC K C f ∧ PySem.W.findIn K (.ref C) "__init__" = some (some (.ref g)) ∧ PySem.W.typeIn K (.ref g) = some (.type "function") ∧ FnOk P w K mg base CX0 k g fd ps (spEr C f) ∧ Binds K fd ps [] ∧
    KBn K fd ps 1 [f] gg (fun vs zs => vs ++ zs) ∧ mg x = some (.ref C)
theorem ErrU.err {P : Program} {w : World} {K : PySem.W.Frag} {mg : Str → Option Value} {base : Heap} {k : Nat} {x : Str} {C : Addr} {f : Str} (c : ErrU P w K mg base k x C f) : Err P w K mg base k x C f := by
  obtain ⟨g, fd, ps, gg, h1, h2, h3, h4, h5, h6, h7⟩ := c.ex
  exact ⟨g, fd, ps, h1, h2, h3, h4, h5, h7⟩
theorem errUD {P : Program} {w : World} {K : PySem.W.Frag} {mg : Str → Option Value} {base : Heap} {x qual f : Str} {C g : Addr} {st : Stmt} {fd : FuncData} {N ps : List Str} (er : ErC K C f) (iC : PySem.W.findIn K (.ref C) "__init__" = some (some (.ref g))) (tI : PySem.W.typeIn K (.ref g) = some (.type "function"))
    (hm : mg x = some (.ref C)) (Fn : Fun K "__init__" qual st g fd) (Sc : FnScope N ps (defScope st)) (hN : N = [("self" : Str), f]) (hps : ps = [("self" : Str), f])
    (hb : ∀ (kV doc pm : Value) (an : Option Addr) (cdv ct : Value) (us : List Value), us.length = ps.length → bindArgs (PySem.W.fnOf "__init__" qual (defArgs st) (defBody st) (defScope st) .none kV doc pm an cdv ct) ⟨us, []⟩ = pure (ps.zip us))
    (hk : ∀ (kV doc pm : Value) (an : Option Addr) (cdv ct u : Value) (ws : List Value), ws.length = [f].length → bindArgs (PySem.W.fnOf "__init__" qual (defArgs st) (defBody st) (defScope st) .none kV doc pm an cdv ct) ⟨[u], [f].zip ws⟩ = pure (ps.zip ([u] ++ ws)))
    (body : ∀ (cdv : Value) (A : Around) (outer : List Env) (s : Shared) (H : Hp) (E : XK), ∃ m,
      PSs (cxOf CX0 P w K mg base N qual (defScope st) g cdv A outer s H E).nox (defBody st) (tSeq (tDrop (tExI K (tCons (tVar 0) (tCons (tC (.str m)) tNil)))) (tOsx K f (tVar 0) (tVar 1)))) :
    ErrU P w K mg base 1 x C f := by
  have kb := kb1_of (g := fun us ws => us ++ ws) (gV := fun vs zs => vs ++ zs) Fn hk (fun h1 h2 => h1.append h2)
  subst hN hps
  refine ⟨g, fd, _, _, er, iC, tI, Fn.ok Sc (fun vs H Q E ⟨a, y, e, _⟩ => by rw [e]; rfl) fun cdv A outer s H vs Q E hr h => ?_, Fn.binds hb, kb, hm⟩
  obtain ⟨a, y, e, ha, q⟩ := h
  subst e
  obtain ⟨m, b⟩ := body cdv A outer s H E
  refine ⟨_, b, ?_⟩
  refine ⟨_, rfl, ?_⟩
  refine ⟨a, C, [_], rfl, by simp, er.oex, ha, ?_⟩
  exact ⟨_, rfl, _, rfl, a, C, rfl, er.oex, er.no, ha, fun dx h1 h2 => q dx h1 h2⟩
section
variable {X : Cx} {k j : Nat} {x f : Str} {C : Addr} {kws : List Keyword} {tk : TA} {p pos : Pos}
theorem pmk_errK (c : ErrU X.prog X.w X.K X.mg X.base k x C f) (hr : Room j X.A) (hk : k + 1 ≤ j) (hg : Gl X x) (hkw : PK X kws tk)
    (hall : (backToKw pos (keywordEach kws X.env)).all (·.1.isSome) = true := by rfl) (hks : (backToKw pos (keywordEach kws X.env)).filterMap (·.1) = [f] := by rfl)
    (hpl : ((backTo pos (starEach [] X.env)).any (·.1) || (backToKw pos (keywordEach kws X.env)).any (·.1.isNone)) = false := by rfl) (hdb : (x == ("__debug__" : Str)) = false := by decide) :
    PMk X (.Call (.Name x p) [] kws pos) (tMkO C (spEr C f) [] tk) := by
  obtain ⟨fI, fd, ps, gg, E, iC, tI, F1, _, hb, hm⟩ := c.ex
  intro pins s σ H Q I h
  have T := E.oex
  obtain ⟨nm, q, N, bs, bm, sn, sub, ab, col, dd, k0, k1, k2, k3, k5, hC, hbm⟩ := T.cls
  refine wpAny_Call_Name_kw (ld_glob I hg hm ?_ hdb)
  refine PySem.W.callWith_of (P := fun h => X.K.In h) hpl (PySem.W.keeps_K T.kC) (evalArgs_kw2_nil hall ?_)
  refine thn (hkw.run pos pins s σ H _ I h) fun ws s1 ⟨zs, H1, I1, rz, hz, q1⟩ => ⟨I1.kIn, ?_⟩
  rw [hks]
  obtain ⟨hp, g, dr, tkk, os⟩ := s1
  have hsz : hp.objs.size ≤ hp.objs.size + 1 := Nat.le_succ _
  have hn : H1 (hp.objs.size + 1) = none := I1.hok.fresh hsz
  have hq := q1 (hp.objs.size + 1) hn
  have kk : ∀ b o, hp.get? b = some o → ((hp.push (PySem.W.kdv_tup [])).push (PySem.HandSPX.excO C hp.objs.size)).get? b = some o := fun b o e => Heap.get?_push_of_some _ (Heap.get?_push_of_some _ e)
  have hget : ((hp.push (PySem.W.kdv_tup [])).push (PySem.HandSPX.excO C hp.objs.size)).get? (hp.objs.size + 1) = some (PySem.HandSPX.excO C hp.objs.size) := by heap_get
  have I2 : Inv X pins σ (upd H1 (hp.objs.size + 1) (exo (hp.objs.size + 1) C none)) ⟨(hp.push (PySem.W.kdv_tup [])).push (PySem.HandSPX.excO C hp.objs.size), g, dr, tkk, os⟩ :=
    I1.laid (t' := tkk) (a := hp.objs.size + 1) (o := exo (hp.objs.size + 1) C none) (h' := (hp.push (PySem.W.kdv_tup [])).push (PySem.HandSPX.excO C hp.objs.size)) kk hsz (exo_ok hget)
  have r2 : Vals ([V.ref (hp.objs.size + 1)] ++ zs) (gg [Value.ref (hp.objs.size + 1)] ws) := hb.rel (vs := [V.ref (hp.objs.size + 1)]) (us := [Value.ref (hp.objs.size + 1)]) (.cons rfl .nil) rz
  have hl : ws.length = [f].length := by
    obtain ⟨a, y, e, _⟩ := hq
    rw [List.append_nil] at e
    have e2 : zs = [y] := (List.cons.inj e).2
    rw [← rz.length, e2]
    rfl
  rw [List.append_nil] at hq
  refine wpAny_call (XE.call_ownK F.excBase_Exception (fun Y => XE.refsX_contains Y bm hbm) (I1.kIn _ _ hC) (PySem.W.looks_findIn I1.kIn iC) (fun self => PySem.W.bind_fn I1.kIn self tI)
    (codeAny_mono (F1.run _ X.stack _ _ ⟨[Value.ref (hp.objs.size + 1)], [f].zip ws⟩ (gg [Value.ref (hp.objs.size + 1)] ws) _ _ (fun _ _ _ => False) ((hr.mono hk).make C [] ([f].zip ws)) (I2.env0.make C [] ([f].zip ws)) (hb.to _ [Value.ref (hp.objs.size + 1)] ws I2.kIn rfl hl) r2 hq) fun r s' hq' => ?_))
  cases r with
  | error er => exact C8.pass0 (E := fun _ _ _ => False) pins σ _ _ er s' I2 hq'
  | ok fl =>
    cases fl with
    | ret u =>
      obtain ⟨v, H2, os2, bare2, un2, hok2, rv, ev, d, fs, ea, ed, hd1, q2⟩ := hq'
      subst ev
      obtain ⟨h2, g2, d2, t2, os'⟩ := s'
      exact ⟨rv, mk_end (raises_own T.exC T.tyC) I1 hsz kk un2 hok2 os2 bare2 ea ed hd1 q2⟩
    | next => exact False.elim hq'
    | brk => exact False.elim hq'
    | cont => exact False.elim hq'
end
end N
set_option Elab.async false
set_option linter.all false
set_option maxRecDepth 100000
set_option maxHeartbeats 2000000
namespace L2
open PySem PySem.Spec PyProof.Rows HotX
structure TurnA (P : Program) (w : World) (K : PySem.W.Frag) (tg : Expr) (J : It) (fp : List Addr) (it : Addr) (tn : Nat → Heap → Prop) : Prop where
  mem : it ∈ fp
  obj : ∀ i h, tn i h → ∀ b ∈ fp, ∃ o, h.get? b = some o ∧ ∀ v, o.data ≠ .cell v
  keep : ∀ i h h', tn i h → (∀ b ∈ fp, ∀ o, h.get? b = some o → h'.get? b = some o) → tn i h'
  item : ∀ (X : Cx), X.prog = P → X.w = w → X.K = K → ∀ (i : Nat) (pins : List (Addr × Obj)) (s : Shared) (σ : St) (H : Hp) (E : Value → Shared → Prop), Inv X pins σ H s → (∀ b ∈ fp, FpOk X pins H b) → tn i s.heap → J.go i H →
    wpAny (model P w) X.A (pyNext (.ref it)) (fun r s1 => ∃ u, r = some u ∧
      wpAny (model P w) X.A (letOwnedTupleGo tg (.ref it) u) (fun _ s2 => ∃ x H', Inv X pins σ H' s2 ∧ RelV x u ∧ J.yld i H x H' ∧ tn (i + 1) s2.heap ∧ ∀ b ∈ fp, H' b = none) E s1) E s
  done : ∀ (X : Cx), X.prog = P → X.w = w → X.K = K → ∀ (i : Nat) (pins : List (Addr × Obj)) (s : Shared) (σ : St) (H : Hp) (E : Value → Shared → Prop), (∃ x1, HotAt X.A x1 s.heap) → Inv X pins σ H s → (∀ b ∈ fp, FpOk X pins H b) → tn i s.heap → J.stop i H →
    wpAny (model P w) X.A (pyNext (.ref it)) (fun r s1 => r = none ∧ Inv X pins σ H s1) E s
  self : ∀ (A : Around) (i : Nat) (s : Shared) (Q : Value → Shared → Prop) (E : Value → Shared → Prop), tn i s.heap → Q (.ref it) s → wpAny (model P w) A (pyIter (.ref it)) Q E s
theorem turn_rangeA {P : Program} {w : World} {K : PySem.W.Frag} {tg : Expr} (it : Addr) (lo : Int) (n : Nat) : TurnA P w K tg (Itr lo n) [it] it (fun i h => IsRangeIter h it (lo + (i : Nat) * 1) ((n : Int) - (i : Nat)) 1) where
  mem := by simp
  obj := fun i h st b hb => by
    have e : b = it := by simpa using hb
    subst e
    exact ⟨_, st, fun v z => by
      have z' : Data.fields _ = Data.cell v := z
      cases z'⟩
  keep := fun i h h' st k => k it (by simp) _ st
  item := by
    intro X hP hw hK i pins s σ H E I hf st hg
    subst hP hw hK
    obtain ⟨f0, f1, f2, f3, f4, f5⟩ := hf it (by simp)
    have hlt : i < n := hg
    refine wpAny_pyNext_range_item st (by omega) fun h' st' sb => ?_
    have st2 : IsRangeIter h' it (lo + ((i + 1 : Nat) : Int) * 1) ((n : Int) - ((i + 1 : Nat) : Int)) 1 := by
      have e1 : lo + ((i : Nat) : Int) * 1 + 1 = lo + ((i + 1 : Nat) : Int) * 1 := by omega
      have e2 : (n : Int) - ((i : Nat) : Int) - 1 = (n : Int) - ((i + 1 : Nat) : Int) := by omega
      rw [← e1, ← e2]
      exact st'
    have I1 : Inv X pins σ H { s with heap := h', toks := s.toks + 1 } := I.turned (fun b o hb e => (sb.2 b hb).trans e) f0 f1 f3 f4 f5
    refine ⟨_, rfl, go_of (s := { s with heap := h', toks := s.toks + 1 }) (n := "range_iterator") st2 rfl rfl (by decide) ⟨.int (lo + i), H, I1, ⟨s.toks, ?_⟩, ⟨rfl, rfl⟩, st2, fun b hb => (hf b hb).1⟩⟩
    rw [Int.mul_one]
  done := by
    intro X hP hw hK i pins s σ H E ⟨x1, hot⟩ I hf st hg
    subst hP hw hK
    obtain ⟨f0, f1, f2, f3, f4, f5⟩ := hf it (by simp)
    exact pyNext_range_end_hot hot st (by have : n ≤ i := hg; omega) fun h' eb => ⟨rfl, I.turned (t' := s.toks) (fun b o _ e => eb b o e) f0 f1 f3 f4 f5⟩
  self := fun _ _ _ _ _ st h => wpAny_pyIter_rangeiter st h
def PIEA (X : Cx) (pins : List (Addr × Obj)) (σ : St) (tg : Expr) (R : It → Hp → Prop) (itv : Value) (s2 : Shared) : Prop :=
  ∃ (it : Addr) (fp : List Addr) (tn : Nat → Heap → Prop) (J : It) (H' : Hp), itv = .ref it ∧ Inv X pins σ H' s2 ∧ TurnA X.prog X.w X.K tg J fp it tn ∧ tn 0 s2.heap ∧ (∀ b ∈ fp, FpOk X pins H' b) ∧ R J H'
structure PIA (X : Cx) (tg iter : Expr) (wi : TI) : Prop where
  run : ∀ (pins : List (Addr × Obj)) (s : Shared) (σ : St) (H : Hp) (R : It → Hp → Prop), Inv X pins σ H s → wi σ H R →
    wpAny (model X.prog X.w) X.A (eval iter X.env) (fun v s1 => wpAny (model X.prog X.w) X.A (pyIter v) (PIEA X pins σ tg R) X.xe s1) X.xe s
section
variable {X : Cx} {tg : Expr}
theorem range_itA {pins : List (Addr × Obj)} {σ : St} {H : Hp} {s : Shared} {R : It → Hp → Prop} {E : Value → Shared → Prop} {lo hi : Int} {t u v : Tok} {tk : Nat} (I : Inv X pins σ H s) (h1 : -(2 ^ 62) ≤ lo) (h2 : lo < 2 ^ 62) (h3 : -(2 ^ 62) ≤ hi) (h4 : hi < 2 ^ 62)
    (q : R (Itr lo (hi - lo).toNat) H) : wpAny (model X.prog X.w) X.A (pyIter (.ref s.heap.objs.size)) (PIEA X pins σ tg R) E { s with heap := s.heap.push { cls := .type "range", data := .fields #[.int lo t, .int hi u, .int 1 v] }, toks := tk } := by
  refine wpAny_pyIter_range (IsRange.new ..) (small_one h1 h2 h3 h4) ?_
  have I1 : Inv X pins σ H { s with heap := s.heap.push { cls := .type "range", data := .fields #[.int lo t, .int hi u, .int 1 v] }, toks := tk } := I.kept fun b o e => Heap.get?_push_of_some _ e
  refine ⟨(s.heap.push { cls := .type "range", data := .fields #[.int lo t, .int hi u, .int 1 v] }).objs.size, [(s.heap.push { cls := .type "range", data := .fields #[.int lo t, .int hi u, .int 1 v] }).objs.size], _, _, H, rfl,
    I1.kept (t' := tk) fun b o e => Heap.get?_push_of_some _ e, turn_rangeA _ lo (hi - lo).toNat, ?_, fun b hb => ?_, q⟩
  · have e1 : lo + ((0 : Nat) : Int) * 1 = lo := by simp
    have e2 : (((hi - lo).toNat : Nat) : Int) - ((0 : Nat) : Int) = Builtin.Range.rangeSize lo hi 1 := by rw [rangeSize_one]; split <;> omega
    show IsRangeIter _ _ (lo + ((0 : Nat) : Int) * 1) ((((hi - lo).toNat : Nat) : Int) - ((0 : Nat) : Int)) 1
    rw [e1, e2]
    exact Heap.get?_push_size _ rfl
  · have e : b = (s.heap.push { cls := .type "range", data := .fields #[.int lo t, .int hi u, .int 1 v] }).objs.size := by simpa using hb
    subst e
    exact I1.fpOk (Nat.le_refl _) (I1.hok.fresh (Nat.le_refl _))
theorem pi_range1A {a : Expr} {ta : TA} {p pos : Pos} (hg : Gl X "range") (hm : X.mg "range" = none) (ha : PA X [a] ta) (hs : starEach [a] X.env = [(false, eval a X.env)] := by rfl) : PIA X tg (.Call (.Name "range" p) [a] [] pos) (iRng1 ta) := by
  refine ⟨fun pins s σ H R I h => ?_⟩
  refine Call_ (ld_blt I hg hm boot_range (PyProof.Rows.callWith_type1 (thn (ha.run pos pins s σ H _ I h) fun us s1 ⟨vs, H1, I1, r1, q1⟩ => ?_) hs rfl))
  obtain ⟨j, e, q1, q2, q⟩ := q1
  subst e
  cases r1 with
  | cons r rr =>
    cases rr
    obtain ⟨t, rfl⟩ := r
    exact call_range_1 (range_itA I1 (by omega) (by omega) q1 q2 (by simpa using q))
variable {X : Cx}
theorem lc_coreA {pins : List (Addr × Obj)} {s : Shared} {σ : St} {H : Hp} {Q : VK} {elt tg iter : Expr} {ifs : List Expr} {scope : Scope} {own : List (Str × Nat)} {pos pos' : Pos} {wi : TI} {g : TG} {tt : TT} {te : TE} {use : Option (Value → Sem Unit)} {Qf : Value → Shared → Prop}
    (hc : L2H.HotC X) (hN : X.N.Nodup) (I : Inv X pins σ H s) (hi : PIA X tg iter wi) (ok : BlkOk X.N X.env.scope scope own)
    (hg : ∀ (s : Shared) (H : Hp) (C : Addr) (cl : List (Str × Addr)) (fp : List Addr), PG (X.blk s H scope (compEnvC scope cl C X.env) fp) tg g) (ht : ∀ (s : Shared) (H : Hp) (C : Addr) (cl : List (Str × Addr)) (fp : List Addr), PTs (X.blk s H scope (compEnvC scope cl C X.env) fp) ifs tt)
    (he : ∀ (s : Shared) (H : Hp) (C : Addr) (cl : List (Str × Addr)) (fp : List Addr), PE (X.blk s H scope (compEnvC scope cl C X.env) fp) elt te) (hs : ∀ x, foldedSetIterable iter X.env x = pure x)
    (h : tLc wi g tt te (own.map (·.2)) σ H Q)
    (hRR : ∀ D C s' m H', Inv X pins σ H' s' → Q (.ref D) H' → s'.heap.Ns C m → FpOk X pins H' C → compPost (model X.prog X.w) X.A X.xe use Qf (.ref D) C (.ok .next) s') :
    wpAny (model X.prog X.w) X.A (comprehension (.ListComp elt [⟨tg, iter, ifs, 0⟩] scope pos) scope X.env pos' (newList []) false (eval iter X.env) use) Qf X.xe s := by
  have hfree : ∀ y ∈ scope.names, y.2 = .free → ∃ c, X.env.cells.lookup y.1 = some c := fun y hy e => by
    rcases ok.free y hy e with k | k
    · exact I.ok.has _ (.inl k)
    · exact I.ok.has _ (.inr k)
  refine wpAny_comprehension_free (use := use) rfl hs (closure_ok hfree) ok.kind (fun y hy e => by rw [ok.uniq y hy, e])
    (thn (hi.run pins s σ H _ I h) fun xv s1 hx => thn hx fun itv s2 h2 => ?_)
  obtain ⟨it, fp, tn, J, H2, e, I2, T, st2, f2, q⟩ := h2
  subst e
  refine wpAny_newObj_type (newEnv_comp ?_) (by show 0 ≤ sizeLine; decide)
  generalize hD : s2.heap.objs.size = D
  have hDn : H2 D = none := I2.hok.fresh (Nat.le_of_eq hD)
  obtain ⟨W, ⟨m0, w0⟩, turn⟩ := q D hDn
  -- the new list
  generalize hs3 : ({ s2 with heap := s2.heap.push { cls := .type "list", data := .seq ([] : List Value).toArray } } : Shared) = s3
  have I3 : Inv X pins σ (upd H2 D (.lst [])) s3 := by
    rw [← hs3]
    refine I2.laid (t' := s2.toks) (fun b o e => Heap.get?_push_of_some _ e) (Nat.le_of_eq hD) ⟨Nat.zero_le _, [], 0, .nil, ?_⟩
    rw [← hD]
    exact Heap.get?_push_size _ rfl
  have h3 : s3.heap = s2.heap.push { cls := .type "list", data := .seq ([] : List Value).toArray } := by rw [← hs3]
  have sz : ∀ b ∈ fp, b < s2.heap.objs.size := fun b hb => by
    obtain ⟨o, e, _⟩ := T.obj _ _ st2 b hb
    exact Heap.lt_size e
  have f3 : ∀ b ∈ fp, FpOk X pins (upd H2 D (.lst [])) b ∧ b < s3.heap.objs.size := fun b hb => by
    have hlt := sz b hb
    refine ⟨⟨?_, (f2 b hb).2⟩, by rw [h3, Heap.size_push]; exact Nat.lt_succ_of_lt hlt⟩
    rw [upd_ne (by rw [← hD]; exact Nat.ne_of_lt hlt)]
    exact (f2 b hb).1
  have st3 : tn 0 s3.heap := T.keep _ _ _ st2 fun b _ o e => by rw [h3]; exact Heap.get?_push_of_some _ e
  have I4 := block_start I3 ok hN f3
  have pg := hg s3 (upd H2 D (.lst [])) s3.heap.objs.size (cellsFrom (s3.heap.objs.size + 1) scope.names (cloFrom X.env.cells scope.names [])) fp
  have pt := ht s3 (upd H2 D (.lst [])) s3.heap.objs.size (cellsFrom (s3.heap.objs.size + 1) scope.names (cloFrom X.env.cells scope.names [])) fp
  have pe := he s3 (upd H2 D (.lst [])) s3.heap.objs.size (cellsFrom (s3.heap.objs.size + 1) scope.names (cloFrom X.env.cells scope.names [])) fp
  show codeAny _ _ (.compStart (.ListComp elt [⟨tg, iter, ifs, 0⟩] scope pos) 0 (.ref it) (.ref D) (compEnvC scope (cellsFrom (s3.heap.objs.size + 1) scope.names (cloFrom X.env.cells scope.names [])) s3.heap.objs.size X.env)) (compPost (model X.prog X.w) X.A X.xe use Qf (.ref D) s3.heap.objs.size) { s3 with heap := pushCells (s3.heap.push { cls := .type "dict", data := .dict #[] }) scope.names }
  have nfp : ∀ b ∈ fp, (upd H2 D (.lst [])) b = none := fun b hb => (f3 b hb).1.1
  generalize hce : compEnvC scope (cellsFrom (s3.heap.objs.size + 1) scope.names (cloFrom X.env.cells scope.names [])) s3.heap.objs.size X.env = ce at I4 pg pt pe ⊢
  have cL : ce.locals = s3.heap.objs.size := by subst hce; rfl
  generalize hH3 : upd H2 D (.lst []) = H3 at I3 I4 pg pt pe w0 nfp f3
  generalize hs4 : ({ s3 with heap := pushCells (s3.heap.push { cls := .type "dict", data := .dict #[] }) scope.names } : Shared) = s4 at I4 ⊢
  have st4 : tn 0 s4.heap := T.keep _ _ _ st3 fun b _ o e => by rw [← hs4]; exact pushCells_keeps _ _ _ _ (Heap.get?_push_of_some _ e)
  have stat : ∀ {σ' : St} {H' : Hp} {s' : Shared}, Inv (X.blk s3 H3 scope ce fp) [] σ' H' s' → (∀ b ∈ fp, H' b = none) → ∀ b ∈ fp, FpOk (X.blk s3 H3 scope ce fp) [] H' b := fun {σ' H' s'} I' hn b hb =>
    ⟨hn b hb, (I'.ok.exf b hb).1, I'.ok.exfs b hb, .inl hb, fun x c e => (I'.ok.exf b hb).2 x c e, fun p hp => absurd (show p ∈ ([] : List (Addr × Obj)) ++ [] from hp) (by simp)⟩
  have hotA : ∀ {σ' : St} {H' : Hp} {s' : Shared}, Inv (X.blk s3 H3 scope ce fp) [] σ' H' s' → ∃ x1, HotAt X.A x1 s'.heap := fun {σ' H' s'} I' => by
    obtain ⟨p, ⟨hh, vs, hd, hv⟩, hp⟩ := hc
    have P1 := I3.pin p (List.mem_append_left _ hp)
    have nfr : p.1 ∉ (X.blk s3 H3 scope ce fp).fs := fun hm => (List.mem_cons.mp (I3.stkSub p.1 hm)).elim P1.2.2.1 P1.2.2.2.1
    have nfp2 : p.1 ∉ fp := fun hm => (f2 p.1 hm).2.2.2.2.2 p (List.mem_append_left _ hp) rfl
    exact ⟨p.1, hh, p.2, vs, I'.base.keep p.1 p.2 P1.1 P1.2.1 nfr nfp2, hd, hv⟩
  have loop : codeAny (model X.prog X.w) X.A (.compLoop (.ListComp elt [⟨tg, iter, ifs, 0⟩] scope pos) 0 (.ref it) (.ref D) ce) (compPost (model X.prog X.w) X.A X.xe use Qf (.ref D) s3.heap.objs.size) s4 := by
    refine compLoop_any (fun n s' => ∃ i H', Inv (X.blk s3 H3 scope ce fp) [] (wipe σ (own.map (·.2))) H' s' ∧ tn i s'.heap ∧ (∀ b ∈ fp, H' b = none) ∧ W i n H') ?_ m0 ⟨0, H3, I4, st4, nfp, w0⟩
    rintro n s5 ⟨i, H5, I5, st5, n5, w5⟩
    rcases turn i n H5 w5 with ⟨stop, qq⟩ | ⟨go, Nx, hNx, step⟩
    · have td := T.done (X.blk s3 H3 scope ce fp) rfl rfl rfl i [] s5 _ H5 (fun _ _ => False) (hotA I5) I5 (stat I5 n5) st5 stop
      refine thnF td fun r s6 ⟨hr, I6⟩ => ?_
      subst hr
      -- back in the def's context
      have I7 : Inv X pins σ H5 s6 := I3.call' (ch := fp) I6.os I6.base I6.hok I6.bare fun b hb => ⟨(f3 b hb).1.2.2.2.1, (f3 b hb).1.2.1, (f3 b hb).1.2.2.2.2.1, (f3 b hb).1.2.2.2.2.2⟩
      have nC : H5 s3.heap.objs.size = none := by
        have z : H5 ce.locals = none := I6.free
        rw [cL] at z
        exact z
      obtain ⟨m, hn, _⟩ := I6.loc
      have hn : s6.heap.Ns ce.locals m := hn
      rw [cL] at hn
      exact hRR D s3.heap.objs.size s6 m H5 I7 qq hn (I3.fpOk (Nat.le_refl _) nC)
    · have ti := T.item (X.blk s3 H3 scope ce fp) rfl rfl rfl i [] s5 _ H5 (fun _ _ => False) I5 (stat I5 n5) st5 go
      refine thnF ti fun r s6 ⟨u, hr, h6⟩ => ?_
      subst hr
      refine thnF h6 fun _ s7 ⟨x, H7, I7, r7, y7, st7, n7⟩ => ?_
      have I7' := I7.pinned (stat I7 n7) (T.obj _ _ st7)
      refine thnF (pg.run _ s7 _ H7 x u _ I7' r7 (step x H7 y7)) fun _ s8 ⟨σ8, H8, I8, hw8, q8⟩ => ?_
      refine thnF (pt.run _ s8 σ8 H8 _ I8 q8) fun b s9 ⟨H9, I9, q9⟩ => ?_
      -- the turn's end
      have fin : ∀ {s' : Shared} {H' : Hp}, Inv (X.blk s3 H3 scope ce fp) ([] ++ pinsAt fp s7.heap) σ8 H' s' → Nx H' → ∃ m, m < n ∧ ∃ i H', Inv (X.blk s3 H3 scope ce fp) [] (wipe σ (own.map (·.2))) H' s' ∧ tn i s'.heap ∧ (∀ b ∈ fp, H' b = none) ∧ W i m H' := fun {s' H'} I' nx => by
        obtain ⟨m', hm, w'⟩ := hNx H' nx
        have pin' : ∀ b ∈ fp, ∀ o, s7.heap.get? b = some o → s'.heap.get? b = some o ∧ H' b = none := fun b hb o e =>
          let z := I'.pin (b, o) (List.mem_append_right _ (List.mem_append_right _ (mem_pinsAt hb e)))
          ⟨z.1, z.2.1⟩
        have hl : (wipe σ (own.map (·.2))).length = σ8.length := by rw [← hw8, wipe_length]
        refine ⟨m', hm, i + 1, H', (I'.unpinned (pins := [])).weak hl (fun j v e => ?_), T.keep _ _ _ st7 fun b hb o e => (pin' b hb o e).1, fun b hb => ?_, w'⟩
        · rw [← hw8] at e
          exact (wipe_some e).1
        · obtain ⟨o, e, _⟩ := T.obj _ _ st7 b hb
          exact (pin' b hb o e).2
      cases b with
      | false =>
        simp only [Bool.false_eq_true, if_false] at q9 ⊢
        exact fin I9 q9
      | true =>
        simp only [if_true] at q9 ⊢
        refine thnF (pe.run _ s9 σ8 H9 _ I9 q9) fun z s10 ⟨yv, H10, I10, r10, acc, hD10, hz10, nx⟩ => ?_
        exact app_ok (X := X.blk s3 H3 scope ce fp) I10 hD10 hz10 r10 fun s11 I11 => fin I11 nx
  exact codeAny_compStart_list loop (T.self X.A 0 _ _ _ st4 loop)
/-- as a value -/
theorem pe_lcA {elt tg iter : Expr} {ifs : List Expr} {scope : Scope} {own : List (Str × Nat)} {pos : Pos} {wi : TI} {g : TG} {tt : TT} {te : TE} (hc : L2H.HotC X) (hN : X.N.Nodup) (hi : PIA X tg iter wi) (ok : BlkOk X.N X.env.scope scope own)
    (hg : ∀ (s : Shared) (H : Hp) (C : Addr) (cl : List (Str × Addr)) (fp : List Addr), PG (X.blk s H scope (compEnvC scope cl C X.env) fp) tg g) (ht : ∀ (s : Shared) (H : Hp) (C : Addr) (cl : List (Str × Addr)) (fp : List Addr), PTs (X.blk s H scope (compEnvC scope cl C X.env) fp) ifs tt)
    (he : ∀ (s : Shared) (H : Hp) (C : Addr) (cl : List (Str × Addr)) (fp : List Addr), PE (X.blk s H scope (compEnvC scope cl C X.env) fp) elt te) (hs : ∀ x, foldedSetIterable iter X.env x = pure x := by intro _; rfl) :
    PE X (.ListComp elt [⟨tg, iter, ifs, 0⟩] scope pos) (tLc wi g tt te (own.map (·.2))) := by
  refine ⟨fun pins s σ H Q I h => ?_⟩
  rw [eval_ListComp]
  refine lc_coreA hc hN I hi ok hg ht he hs h fun D C s' m H' I' q hn f => ⟨m, hn, fun h'' sb => ?_⟩
  obtain ⟨f0, f1, f2, f3, f4, f5⟩ := f
  exact ⟨.ref D, H', I'.turned (t' := s'.toks) (fun b o hb e => (sb.2 b hb).trans e) f0 f1 f3 f4 f5, rfl, q⟩
end
end L2
set_option Elab.async false
set_option linter.all false
set_option maxRecDepth 100000
set_option maxHeartbeats 2000000
namespace N
open PySem PySem.Spec PyProof.Rows L2
open L2H (RoomH PinOk cxH inv_startH)
structure FnS (P : Program) (w : World) (K : PySem.W.Frag) (mg : Str → Option Value) (base : Heap) (k : Nat) (f : Addr) (fd : FuncData) (ps : List Str) (a : Addr) (cls : Value) (d : Option Addr) (sp : Sp) : Prop where
  len : ∀ vs H Q E, sp vs H Q E → vs.length = ps.length
  run : ∀ (A : Around) (outer : List Env) (s : Shared) (H : Hp) (args : Args) (us : List Value) (vs : List V) (Q : VK) (E : XK) (oe : Obj), RoomH k A → A.handled = some (.ref a) → L2N.Zn cls d oe → (∃ vs, oe.data = .fields vs) → PinOk outer H s (a, oe) → Env0 P w K mg base A outer s H → BindsTo s fd args (ps.zip us) → Vals vs us → sp vs H Q E →
    codeAny (model P w) A (.call (.ref f) args) (CR CX0 outer P w H s Q E) s
theorem hotC_of {X : Cx} {a : Addr} {cls : Value} {d : Option Addr} {oe : Obj} (hp : (a, oe) ∈ X.pn) (hh : X.A.handled = some (.ref a)) (hz : L2N.Zn cls d oe) (hf : ∃ vs, oe.data = .fields vs) : L2H.HotC X := by
  obtain ⟨vs, hv⟩ := hf
  exact ⟨(a, oe), ⟨hh, vs, hv, hz.2.2 vs hv⟩, hp⟩
theorem roomH_mark {k : Nat} {A : Around} (r : Room k A) (v : Option Value) : RoomH k (A.mark v) := ⟨r.dp, r.un⟩
theorem roomH_units {k : Nat} {A : Around} (r : RoomH k A) : A.units + 64 < cLine := by have := r.un; omega
theorem fn_ofS {P : Program} {w : World} {K : PySem.W.Frag} {mg : Str → Option Value} {base : Heap} {k : Nat} {f : Addr} {name qual : Str} {params : Arguments} {body : List Stmt} {scope : Scope} {dV kV doc pm cdv ct oc : Value} {an od : Option Addr}
    {osl : Array (Option Value)} {N ps : List Str} {sp : Sp} {a : Addr} {cls : Value} {d : Option Addr} (lk : K.lookup f = some ⟨oc, od, .func (PySem.W.fnOf name qual params body scope dV kV doc pm an cdv ct), osl⟩) (hcd : PySem.W.codeIn K cdv qual = true) (S : FnScope N ps scope)
    (len : ∀ vs H Q E, sp vs H Q E → vs.length = ps.length)
    (hbody : ∀ (A : Around) (outer : List Env) (s : Shared) (H : Hp) (vs : List V) (Q : VK) (E : XK) (oe : Obj), A.handled = some (.ref a) → L2N.Zn cls d oe → (∃ vs, oe.data = .fields vs) → RoomH k (A.deeper (envOfC qual scope s.heap.objs.size f cdv)) → sp vs H Q E →
      ∃ t, PSs (cxH CX0 P w K mg base N qual scope f cdv A outer s H E (a, oe)) body t ∧ t { nx := fun _ H' => Q .non H', rt := Q } (L2.start N vs) H) :
    FnS P w K mg base (k + 1) f (PySem.W.fnOf name qual params body scope dV kV doc pm an cdv ct) ps a cls d sp := by
  refine ⟨len, fun A outer s H args us vs Q E oe hr hh hz hf hpin e0 hb r hsp => ?_⟩
  have hl := len _ _ _ _ hsp
  have KX : K.In s.heap := e0.mod.kin.keeps fun b o e => (e0.bs b o e).1
  have lim : s.heap.NoLimit := e0.mod.nolimit.keeps fun b o e => (e0.bs b o e).1
  have hkind : ∀ y ∈ ps.zip us, scope.names.lookup y.1 = some .local ∨ (scope.names.lookup y.1 = some .cell ∧ ((cellsFrom (s.heap.objs.size + 1) scope.names []).lookup y.1).isSome = true) := fun ⟨n, v⟩ hy => by
    rcases S.par n (List.of_mem_zip hy).1 with q | q
    · exact .inl q
    · exact .inr ⟨q, PySem.W.cellsFrom_some _ _ _ (.inl q)⟩
  refine codeAny_call_function hr.depth (KX _ _ lk) rfl S.co S.gen rfl (PySem.W.codeRec_of KX hcd) (hb _ _ _ _ ?_)
  refine wpAny_newFunctionEnv_cells S.kind hkind fun env he s1 x => ?_
  subst he
  refine ⟨lim.keeps x.toInCall.keep, codeAny_func ?_⟩
  obtain ⟨t, ht, hq⟩ := hbody A outer s H vs Q E oe hh hz hf (hr.deeper _) hsp
  have I : Inv (cxH CX0 P w K mg base N qual scope f cdv A outer s H E (a, oe)) [] (L2.start N vs) H s1 := inv_startH S hpin e0 hl r x
  refine wpAny_mono (ht.run [] s1 (L2.start N vs) H _ I hq) (fun fl s' hs => ?_) fun e s' hs => hs
  have fin : ∀ {σ' : L2.St} {H' : Hp} {v : V} {u : Value}, Inv (cxH CX0 P w K mg base N qual scope f cdv A outer s H E (a, oe)) [] σ' H' s' → RelV v u → Q v H' → CE outer P w H s Q u s' :=
    fun {σ' H' v u} J rv q => ⟨v, H', J.os, J.bare, J.base, J.hok, rv, q⟩
  cases fl with
  | ret u =>
    obtain ⟨v, σ', H', J, rv, q⟩ := hs
    exact fin J rv q
  | next =>
    obtain ⟨σ', H', J, q⟩ := hs
    exact fin (v := V.non) (u := Value.none) J rfl q
  | brk =>
    obtain ⟨_, _, _, q⟩ := hs
    exact False.elim q
  | cont =>
    obtain ⟨_, _, _, q⟩ := hs
    exact False.elim q
structure CalS (P : Program) (w : World) (K : PySem.W.Frag) (mg : Str → Option Value) (base : Heap) (k : Nat) (x : Str) (a : Addr) (cls : Value) (d : Option Addr) (sp : Sp) : Prop where
  ex : ∃ (f : Addr) (fd : FuncData) (ps : List Str), FnS P w K mg base k f fd ps a cls d sp ∧ mg x = some (.ref f) ∧ PySem.W.keepIn K (.ref f) = true ∧ Binds K fd ps []
section
variable {P : Program} {w : World} {K : PySem.W.Frag} {mg : Str → Option Value} {base : Heap} {F : FmKit} {cl : Nat → Addr} {S : FS} {a : Addr} {cls : Value} {d : Option Addr}
theorem calS {x : Str} {st : Stmt} {f : Addr} {fd : FuncData} {N ps : List Str} {k : Nat} (hm : mg x = some (.ref f)) (Fn : Fun K x x st f fd) (Sc : FnScope N ps (defScope st)) (len : ∀ ds W post, S ds W post → ds.length = ps.length)
    (hb : ∀ (kV doc pm : Value) (an : Option Addr) (cdv ct : Value) (us : List Value), us.length = ps.length → bindArgs (PySem.W.fnOf x x (defArgs st) (defBody st) (defScope st) .none kV doc pm an cdv ct) ⟨us, []⟩ = pure (ps.zip us))
    (body : ∀ (cdv : Value) (A : Around) (outer : List Env) (s : Shared) (H : Hp) (E : XK) (oe : Obj), A.handled = some (.ref a) → L2N.Zn cls d oe → (∃ vs, oe.data = .fields vs) → RoomH k (A.deeper (envOfC x (defScope st) s.heap.objs.size f cdv)) →
      ∃ t, PSs (cxH CX0 P w K mg base N x (defScope st) f cdv A outer s H E (a, oe)).nox (defBody st) t ∧ ∀ ds W post, S ds W post → Sw F ⟨K, cl⟩ t (startD N ds) W (E_ post)) : CalS P w K mg base (k + 1) x a cls d (spN F ⟨K, cl⟩ S) := by
  have kp := Fn.kp
  have bd := Fn.binds hb
  obtain ⟨oc, od, kV, doc, pm, an, cdv, ct, osl, rfl, lk, hcd⟩ := Fn.ex
  refine ⟨f, _, ps, fn_ofS lk hcd Sc (spN_len len) fun A outer s H vs Q E oe hh hz hf hr hsp => ?_, hm, kp, bd⟩
  obtain ⟨t, ht, b⟩ := body cdv A outer s H E oe hh hz hf hr
  exact ⟨t, ht.nox, body_run hsp b⟩
end
theorem pe_cS {X : Cx} {k j : Nat} {x : Str} {a : Addr} {cls : Value} {d : Option Addr} {oe : Obj} {sp : Sp} {e : Expr} {es : List Expr} {t : TA} {p pos : Pos} (c : CalS X.prog X.w X.K X.mg X.base k x a cls d sp) (hr : RoomH j X.A) (hk : k ≤ j) (hp : (a, oe) ∈ X.pn) (hh : X.A.handled = some (.ref a)) (hz : L2N.Zn cls d oe) (hf : ∃ vs, oe.data = .fields vs) (hg : Gl X x) (ha : PA X (e :: es) t)
    (hdb : (x == ("__debug__" : Str)) = false := by decide) (he : starEach (e :: es) X.env = (false, eval e X.env) :: starEach es X.env := by rfl) (hpl : (backTo pos (starEach es X.env)).any (·.1) = false := by rfl) :
    PE X (.Call (.Name x p) (e :: es) [] pos) (tCall sp [] C8.E0 t) := by
  obtain ⟨f, fd, ps, F, hm, kp, hb⟩ := c.ex
  refine ⟨fun pins s σ H Q I h => ?_⟩
  refine wpAny_Call_Name_kw (ld_glob I hg hm ?_ hdb)
  refine PySem.W.callWith_K (h₀ := X.base) I.ok.mod.kin kp (thn (ha.run pos pins s σ H _ I h) fun us s1 ⟨vs, H1, I1, r, q⟩ => ⟨I1.kIn, ?_⟩) he hpl
  have q : sp vs H1 Q C8.E0 := by
    have q : sp (vs ++ []) H1 Q C8.E0 := q
    rwa [List.append_nil] at q
  have hl : us.length = ps.length := by rw [← r.length]; exact F.len _ _ _ _ q
  have b := hb s1 us I1.kIn (by rw [List.append_nil]; exact hl)
  rw [List.append_nil] at b
  have P1 := I1.pin (a, oe) (List.mem_append_left _ hp)
  have hpin : PinOk X.stack H1 s1 (a, oe) := ⟨P1.1, P1.2.1, fun hm => (List.mem_cons.mp (I1.stkSub a hm)).elim P1.2.2.1 P1.2.2.2.1, P1.2.2.2.2⟩
  refine wpAny_call (codeAny_mono (F.run X.A X.stack s1 H1 ⟨us, []⟩ us vs Q C8.E0 oe (hr.mono hk) hh hz hf hpin I1.env0 b r q) fun r s' hq => ?_)
  cases r with
  | error e => exact C8.pass0 (E := C8.E0) pins σ H1 s1 e s' I1 hq
  | ok fl =>
    cases fl with
    | ret u => exact I1.after hq
    | next => exact False.elim hq
    | brk => exact False.elim hq
    | cont => exact False.elim hq
end N
set_option Elab.async false
set_option linter.all false
set_option maxRecDepth 100000
set_option maxHeartbeats 2000000
namespace N
open PySem PySem.Spec PyProof.Rows L2
section
variable {X : Cx} {k j : Nat} {x f : Str} {C : Addr} {e : Expr} {es : List Expr} {ta : TA} {p pos : Pos}
theorem mk_endN {pins : List (Addr × Obj)} {σ : L2.St} {H1 H2 : Hp} {Q : XK} {hp hp2 h2 : Heap} {g1 g2 : Array GenState} {d1 d2 : Drawn} {t1 t2 : Nat} {os1 os2 : OsState} {a C d : Addr} {fs : List (Str × V)} (T : Raises X (.ref C)) (I1 : Inv X pins σ H1 ⟨hp, g1, d1, t1, os1⟩)
    (ha : hp.objs.size ≤ a) (k : ∀ b o, hp.get? b = some o → hp2.get? b = some o) (un : Un (frs X.stack) [] (upd H1 a (exo a C none)) H2 hp2 h2) (hok : HOk X.prog X.w H2 h2) (ho : os2 = os1) (hb : AllBare g2)
    (ea : H2 a = some (exo a C (some d))) (ed : H2 d = some (exd d fs)) (hd1 : H1 d = none) (q : Q (.ref C) (some d) (upd (L2.del H2 a) d (.xd fs))) : L2N.MkP X pins σ Q (.ref a) ⟨h2, g2, d2, t2, os2⟩ := by
  obtain ⟨t0, G, J, kG, ge, hoe, na⟩ := mk_end0 (d2 := d2) (t2 := t2) I1 ha k un hok ho hb ea ed hd1
  exact ⟨a, _, _, ⟨G, g2, d2, t2, os2⟩, _, .ref C, some d, rfl, J, kG, ge, hoe, ⟨rfl, rfl, fun vs e => by cases e; rfl⟩, rfl, rfl, na, rfl, hb, T, q⟩
theorem pmk_errN (c : ErrU X.prog X.w X.K X.mg X.base k x C f) (hr : Room j X.A) (hk : k + 1 ≤ j) (hg : Gl X x) (ha : PA X (e :: es) ta)
    (hdb : (x == ("__debug__" : Str)) = false := by decide) (he : starEach (e :: es) X.env = (false, eval e X.env) :: starEach es X.env := by rfl) (hpl : (backTo pos (starEach es X.env)).any (·.1) = false := by rfl) :
    L2N.PMk X (.Call (.Name x p) (e :: es) [] pos) (tMkO C (spEr C f) [] ta) := by
  obtain ⟨fI, fd, ps, gg, E, iC, tI, F1, hb, _, hm⟩ := c.ex
  intro pins s σ H Q I h
  have T := E.oex
  have hx : Passes CX0 X (fun _ _ _ => False) := C8.pass0
  obtain ⟨nm, q, N, bs, bm, sn, sub, ab, col, dd, k0, k1, k2, k3, k5, hC, hbm⟩ := T.cls
  refine wpAny_Call_Name_kw (ld_glob I hg hm ?_ hdb)
  refine PySem.W.callWith_K (h₀ := X.base) I.ok.mod.kin T.kC (thn (ha.run pos pins s σ H _ I h) fun us s1 ⟨vs, H1, I1, r1, hz, q1⟩ => ⟨I1.kIn, ?_⟩) he hpl
  show wpAny _ _ (call (.ref C) us) _ _ _
  obtain ⟨hp, g, dr, tk, os⟩ := s1
  have hsz : hp.objs.size ≤ hp.objs.size + 1 := Nat.le_succ _
  have hn : H1 (hp.objs.size + 1) = none := I1.hok.fresh hsz
  have hq := q1 (hp.objs.size + 1) hn
  rw [List.append_nil] at hq
  have kk : ∀ b o, hp.get? b = some o → ((hp.push (PySem.W.kdv_tup us)).push (PySem.HandSPX.excO C hp.objs.size)).get? b = some o := fun b o e => Heap.get?_push_of_some _ (Heap.get?_push_of_some _ e)
  have hget : ((hp.push (PySem.W.kdv_tup us)).push (PySem.HandSPX.excO C hp.objs.size)).get? (hp.objs.size + 1) = some (PySem.HandSPX.excO C hp.objs.size) := by heap_get
  have I2 : Inv X pins σ (upd H1 (hp.objs.size + 1) (exo (hp.objs.size + 1) C none)) ⟨(hp.push (PySem.W.kdv_tup us)).push (PySem.HandSPX.excO C hp.objs.size), g, dr, tk, os⟩ :=
    I1.laid (t' := tk) (a := hp.objs.size + 1) (o := exo (hp.objs.size + 1) C none) (h' := (hp.push (PySem.W.kdv_tup us)).push (PySem.HandSPX.excO C hp.objs.size)) kk hsz (exo_ok hget)
  have r2 : Vals (V.ref (hp.objs.size + 1) :: vs) (Value.ref (hp.objs.size + 1) :: us) := .cons rfl r1
  have hl : (Value.ref (hp.objs.size + 1) :: us ++ []).length = ps.length := by
    have e := r2.length
    rw [F1.len _ _ _ _ hq] at e
    rw [List.append_nil]
    exact e.symm
  have bb := hb ⟨(hp.push (PySem.W.kdv_tup us)).push (PySem.HandSPX.excO C hp.objs.size), g, dr, tk, os⟩ (Value.ref (hp.objs.size + 1) :: us) I2.kIn hl
  rw [List.append_nil] at bb
  have hus : us.length ≤ sizeLine := by
    rw [← Paired.length r1, sizeLine_eq]
    omega
  refine wpAny_call (PySem.HandSPX.call_own F.excBase_Exception (fun Y => XE.refsX_contains Y bm hbm) (I1.kIn _ _ hC) (PySem.W.looks_findIn I1.kIn iC) (fun self => PySem.W.bind_fn I1.kIn self tI) hus
    (codeAny_mono (F1.run _ X.stack _ _ ⟨Value.ref (hp.objs.size + 1) :: us, []⟩ (Value.ref (hp.objs.size + 1) :: us) _ _ (fun _ _ _ => False) ((hr.mono hk).make C us []) (I2.env0.make C us []) bb r2 hq) fun r s' hq' => ?_))
  cases r with
  | error er => exact hx pins σ _ _ er s' I2 hq'
  | ok fl =>
    cases fl with
    | ret u =>
      obtain ⟨v, H2, os2, bare2, un2, hok2, rv, ev, d, fs, ea, ed, hd1, q2⟩ := hq'
      subst ev
      obtain ⟨h2, g2, d2, t2, os'⟩ := s'
      exact ⟨rv, mk_endN (raises_own T.exC T.tyC) I1 hsz kk un2 hok2 os2 bare2 ea ed hd1 q2⟩
    | next => exact False.elim hq'
    | brk => exact False.elim hq'
    | cont => exact False.elim hq'
theorem pmk_er0N (E : Er0 X.K X.mg x C) (hg : Gl X x) (hdb : (x == ("__debug__" : Str)) = false := by decide) :
    L2N.PMk X (.Call (.Name x p) [] [] pos) (fun _ H Q => Q (.ref C) none H) := by
  intro pins s σ H Q I h
  refine wpAny_Call_Name_kw (ld_glob I hg E.g ?_ hdb)
  refine PySem.W.callWith_K0 I.kIn E.k ?_
  obtain ⟨bm, N, nm, qn, bs, hdct, sn, sub, ab, col, dd, k0, k1, k2, k3, k5, mN, hC, hN, hni, T⟩ := exc_obj I.kIn E.e
  refine wpAny_call_exc_subT F.excBase_Exception T hC hN hni (fun h' e hm => ?_) (Nat.zero_le _)
  exact L2N.mk_of I hm (raises_own E.s E.t) h (I.hok.gone hm.new)
end
/-- a def that may raise -/
structure CalXN (P : Program) (w : World) (K : PySem.W.Frag) (mg : Str → Option Value) (base : Heap) (k : Nat) (x : Str) (sp : Sp) : Prop where
  ex : ∃ (f : Addr) (fd : FuncData) (ps : List Str), FnOk P w K mg base (L2N.CX P w) k f fd ps sp ∧ mg x = some (.ref f) ∧ PySem.W.keepIn K (.ref f) = true ∧ Binds K fd ps []
theorem pe_cXN {X : Cx} {W : WX} {k j : Nat} {x : Str} {sp : Sp} {e : Expr} {es : List Expr} {t : TA} {p pos : Pos} (c : CalXN X.prog X.w X.K X.mg X.base k x sp) (hr : Room j X.A) (hk : k ≤ j) (hg : Gl X x) (tk : L2N.Takes X W) (ha : PA X (e :: es) t)
    (hdb : (x == ("__debug__" : Str)) = false := by decide) (he : starEach (e :: es) X.env = (false, eval e X.env) :: starEach es X.env := by rfl) (hpl : (backTo pos (starEach es X.env)).any (·.1) = false := by rfl) :
    PE X (.Call (.Name x p) (e :: es) [] pos) (tCallS sp (WE W) t) := by
  obtain ⟨f, fd, ps, F, hm, kp, b⟩ := c.ex
  exact pe_callS F (hr.mono hk) hg hm kp b (fun σ => L2N.passAt tk σ) ha hdb he hpl
section
variable {P : Program} {w : World} {K : PySem.W.Frag} {mg : Str → Option Value} {base : Heap} {F : FmKit} {cl : Nat → Addr} {S : FX}
theorem calXND {x : Str} {st : Stmt} {f : Addr} {fd : FuncData} {N ps : List Str} {k : Nat} (hm : mg x = some (.ref f)) (Fn : Fun K x x st f fd) (Sc : FnScope N ps (defScope st)) (len : ∀ ds W post ex, S ds W post ex → ds.length = ps.length)
    (hb : ∀ (kV doc pm : Value) (an : Option Addr) (cdv ct : Value) (us : List Value), us.length = ps.length → bindArgs (PySem.W.fnOf x x (defArgs st) (defBody st) (defScope st) .none kV doc pm an cdv ct) ⟨us, []⟩ = pure (ps.zip us))
    (body : ∀ (cdv : Value) (A : Around) (outer : List Env) (s : Shared) (H : Hp) (E : XK), Room k (A.deeper (envOfC x (defScope st) s.heap.objs.size f cdv)) →
      ∃ t, PSs (cxOf (L2N.CX P w) P w K mg base N x (defScope st) f cdv A outer s H E) (defBody st) t ∧ ∀ ds W post ex, S ds W post ex → SwX F ⟨K, cl⟩ (WD E) t (startD N ds) W (E_ post) fun c d _ W => ex c d W) : CalXN P w K mg base (k + 1) x (spX F ⟨K, cl⟩ S) := by
  have kp := Fn.kp
  have bd := Fn.binds hb
  obtain ⟨oc, od, kV, doc, pm, an, cdv, ct, osl, rfl, lk, hcd⟩ := Fn.ex
  exact ⟨f, _, ps, fn_of lk hcd Sc (spX_len len) fun A outer s H vs Q E hr hsp => let ⟨t, ht, b⟩ := body cdv A outer s H E hr; ⟨t, ht, body_runX hsp b⟩, hm, kp, bd⟩
end
theorem takes0N {X : Cx} : L2N.Takes X (fun _ _ _ _ => False) := fun u s' ⟨_, _, _, _, _, _, _, _, _, _, _, _, _, _, _, _, w⟩ => w.elim
end N
set_option Elab.async false
set_option linter.all false
set_option maxRecDepth 100000
set_option maxHeartbeats 2000000
namespace N
open PySem PySem.Spec PyProof.Rows L2
/-- an exception of the class with the place c is held, or is an owned value -/
def ErrAt (cl : Nat → Addr) (hx : Hx) (a : Addr) (c : Nat) (d : Option Addr) (W : Om) : Prop := hx = some (a, .ref (cl c), d) ∨ (a, OD.any (XvO (.ref (cl c)) d a)) ∈ W
/-- with its field -/
def FldAt (d : Option Addr) (fs : List (Str × D)) (W : Om) : Prop := (d = none ∧ fs = []) ∨ ∃ dd, d = some dd ∧ (dd, OD.xd (fs.map (·.1)) (fs.map (·.2))) ∈ W
section
variable {F : FmKit} {T : Kx} {C H O : Hp} {G : Gm} {W : Om} {R : D → Om → Prop} {te ta : TE} {tr : TA} {hx : Hx}
theorem ErrAt.at_ {a : Addr} {c : Nat} {d : Option Addr} (h : ErrAt T.cl hx a c d W) (ow : Ow F T H C O W) : XAt hx (ov O H) a (.ref (T.cl c)) d := by
  rcases h with h | h
  · exact .inl h
  · exact .inr (ov_own (ow.at_ a _ h).2)
theorem ErrAt.mono {a : Addr} {c : Nat} {d : Option Addr} {W' : Om} {cl : Nat → Addr} (h : ErrAt cl hx a c d W) (s : ∀ x ∈ W, x ∈ W') : ErrAt cl hx a c d W' := h.imp id fun h => s _ h
theorem FldAt.mono {d : Option Addr} {fs : List (Str × D)} {W' : Om} (h : FldAt d fs W) (s : ∀ x ∈ W, x ∈ W') : FldAt d fs W' := h.imp id fun ⟨dd, e, m⟩ => ⟨dd, e, s _ m⟩
theorem ev_errV {c : Nat} {f : Str} (h : EvA F T tr G W fun ds W1 => ∃ z, ds = [z] ∧ ∀ a d, a ∉ akeys W1 → d ∉ akeys W1 → a ≠ d → R (.adr a) ((a, .any (XvO (.ref (T.cl c)) (some d) a)) :: (d, .xd [f] [z]) :: W1)) :
    Ev F T (tMkV (tMkO (T.cl c) (spEr (T.cl c) f) [] tr)) G W R := fun C H O σ w Q q =>
  h C H O σ w _ fun ds W1 H1 O1 vs ⟨z, e, hz⟩ n k => by
    subst e
    obtain ⟨v, r', e1, k1, e2⟩ := k
    have e2 : r' = [] := e2
    subst e2 e1
    refine ⟨by simp, fun a ha => ⟨a, v, rfl, upd_same, fun dx h1 h2 => ⟨rfl, dx, [(f, v)], upd_same, ?_, ?_, ?_⟩⟩⟩
    · rw [upd_ne h2, upd_same]
    · rwa [upd_ne h2] at h1
    · have h3 : ov O1 H1 dx = none := by rwa [upd_ne h2] at h1
      have e : upd (L2.del (upd (upd (upd (ov O1 H1) a (exo a (T.cl c) none)) dx (exd dx [(f, v)])) a (exo a (T.cl c) (some dx))) a) dx (.xd [(f, v)]) = upd (ov O1 H1) dx (.xd [(f, v)]) := by
        funext y
        by_cases hy : y = dx
        · rw [hy, upd_same, upd_same]
        · rw [upd_ne hy, upd_ne hy]
          unfold L2.del
          by_cases ha2 : y = a
          · rw [if_pos ha2, ha2, ha]
          · rw [if_neg ha2, upd_ne ha2, upd_ne hy, upd_ne ha2]
      show ∀ b, upd (L2.del _ a) dx _ b = none → Q (.ref b) (upd (upd (L2.del _ a) dx _) b _)
      rw [show upd (L2.del (upd (upd (upd (ov O1 H1) a (exo a (T.cl c) none)) dx (exd dx [(f, v)])) a (exo a (T.cl c) (some dx))) a) dx (.xd [(f, v)]) = upd (ov O1 H1) dx (.xd [(f, v)]) from e]
      intro b hb
      obtain ⟨n2, e3, np⟩ := n.newO (od := .xd [f] [z]) (o := .xd [(f, v)]) h3 ⟨[(f, v)], rfl, rfl, .one k1⟩
      rw [e3] at hb ⊢
      obtain ⟨n3, e4, np2⟩ := n2.newO (od := .any (XvO (.ref (T.cl c)) (some dx) b)) (o := XvO (.ref (T.cl c)) (some dx) b) hb rfl
      rw [e4]
      have m1 : b ∉ akeys W1 ∧ b ≠ dx := by
        constructor
        · exact fun m => np2 (List.mem_cons_of_mem _ m)
        · exact fun m => np2 (by rw [m]; exact List.mem_cons_self)
      exact q _ _ _ _ _ (hz b dx m1.1 np m1.2) n3 rfl
theorem ev_er0V {c : Nat} (h : ∀ a, a ∉ akeys W → R (.adr a) ((a, .any (XvO (.ref (T.cl c)) none a)) :: W)) : Ev F T (tMkV fun _ H Q => Q (.ref (T.cl c)) none H) G W R := fun C H O σ w Q q => by
  intro b hb
  obtain ⟨n3, e4, np2⟩ := w.nx.newO (od := .any (XvO (.ref (T.cl c)) none b)) (o := XvO (.ref (T.cl c)) none b) hb rfl
  rw [e4]
  exact q _ _ _ _ _ (h b np2) n3 rfl
theorem ca_isU {c : Nat} {v : V} {cv : Value} {r : Bool} {a : Addr} {d : Option Addr} {fs : List (Str × D)} (ec : ExcC T.K (T.cl c)) (hv : ∀ u, RelV v u → u = cv) (hk : PySem.W.kitOne T.K (.ref (T.cl c)) cv = some r) (hm : ErrAt T.cl hx a c d W) (hd : FldAt d fs W) (h : R (.bl r) W) :
    Ca F T (rIsU T.K hx) [.adr a, .vl v] W R := fun C H O di oc ow xs hxs Q q => by
  obtain ⟨x, r1, e1, k1, k2⟩ := hxs
  obtain ⟨y, r2, e2, k3, k4⟩ := k2
  have k4 : r2 = [] := k4
  have k1 : x = .ref a := k1
  have k3 : y = v := k3
  subst k4 k1 k3 e2 e1
  refine ⟨a, y, cv, r, T.cl c, d, rfl, hm.at_ ow, ?_, ec, hv, hk, q (.bl r) W H O (.bl r) h (Nx.refl di oc ow) rfl⟩
  rcases hd with ⟨hd, _⟩ | ⟨dd, rfl, m⟩
  · exact .inl hd
  · obtain ⟨_, gs, h1, h2, h3⟩ := ow.at_ dd _ m
    exact .inr ⟨dd, gs, rfl, ov_own h1⟩
theorem ev_xU {f : Str} (h : Ev F T te G W fun dv W1 => ∃ (a : Addr) (c : Nat) (d : Option Addr) (z : D), dv = .adr a ∧ XfC T.K (T.cl c) ∧ PySem.W.findIn T.K (.ref (T.cl c)) f = some none ∧ ErrAt T.cl hx a c d W1 ∧ FldAt d [(f, z)] W1 ∧ R z W1) : Ev F T (tXU T.K hx f te) G W R := fun C H O σ w Q q =>
  h C H O σ w _ fun dv W1 H1 O1 x ⟨a, c, d, z, e, h1, h2, h3, h4, r⟩ n k => by
    subst e
    rcases h4 with ⟨_, h4⟩ | ⟨dd, rfl, m⟩
    · cases h4
    · obtain ⟨_, gs, g1, g2, g3⟩ := n.own.at_ dd _ m
      obtain ⟨v, hv, kv⟩ := look_zip (n := f) (z := z) (l := [z]) g3 (by rw [g2]; simp)
      exact ⟨a, T.cl c, dd, gs, v, k, h1, h2, h3.at_ n.own, ov_own g1, hv, q z W1 H1 O1 v r n kv⟩
end
end N
set_option Elab.async false
set_option linter.all false
set_option maxRecDepth 100000
set_option maxHeartbeats 1000000
namespace N
open PySem PySem.Spec PyProof.Rows L2
/-- the types that may stand on the other side -/
inductive OT : String → Prop
  | str : OT "str"
  | int : OT "int"
  | bool : OT "bool"
  | non : OT "NoneType"
  | tup : OT "tuple"
  | lst : OT "list"
  | dct : OT "dict"
/-- int, bool and dict have such operators of their own -/
def fillB (op : Operator) (T : String) : Bool := T == "int" || T == "bool" || (T == "dict" && op == .BitOr)
section
variable {X : Cx} {pins : List (Addr × Obj)} {σ : L2.St} {H : Hp} {s : Shared} {k j : Nat} {C f f' : Addr} {fd : FuncData} {ps : List Str} {sp : Sp} {E : XK} {W : WX} {op : Operator}
/-- no int, no bool, no dict -/
structure Alien (K : PySem.W.Frag) (C : Addr) : Prop where
  int : PySem.W.kitOne K (.ref C) (.type "int") = some false
  bool : PySem.W.kitOne K (.ref C) (.type "bool") = some false
  dict : PySem.W.kitOne K (.ref C) (.type "dict") = some false
theorem Alien.at {K : PySem.W.Frag} (h : Alien K C) {T : String} (ht : OT T) (hf : fillB op T = true) : PySem.W.kitOne K (.ref C) (.type T) = some false := by
  cases ht with
  | int => exact h.int
  | bool => exact h.bool
  | dct => exact h.dict
  | str => exact absurd hf (by simp [fillB])
  | non => exact absurd hf (by simp [fillB])
  | tup => exact absurd hf (by simp [fillB])
  | lst => exact absurd hf (by simp [fillB])
end
end N
set_option Elab.async false
set_option linter.all false
set_option maxRecDepth 100000
set_option maxHeartbeats 1000000
set_option Elab.async false
set_option linter.all false
set_option maxRecDepth 100000
set_option maxHeartbeats 2000000
namespace N
open PySem PySem.Spec PyProof.Rows L2
mutual
/-- the datum of a value, for repr: a dict that is empty or has one text, too -/
inductive Dr (K : PySem.W.Frag) (H : Hp) : V → PyData → Prop
  | qn : Dr K H .non .none
  | qb (y : Bool) : Dr K H (.bl y) (.bool y)
  | qi (n : Int) : Dr K H (.int n) (.int n)
  | qs (t : Str) : Dr K H (.str t) (.str t)
  | ql {p : Addr} {vs : List V} {qs : List PyData} : SqL K H p vs → DrL K H vs qs → Dr K H (.ref p) (.list qs)
  | qt {p : Addr} {vs : List V} {qs : List PyData} : SqT K H p vs → DrL K H vs qs → Dr K H (.ref p) (.tuple qs)
  | qd {p : Addr} : H p = some (.dK []) → Dr K H (.ref p) (.dict [])
  | q1 {p : Addr} {k : Str} {y : V} {q : PyData} : H p = some (.dK [(Sum.inr k, y)]) → Dr K H y q → Dr K H (.ref p) (.dict [(.str k, q)])
inductive DrL (K : PySem.W.Frag) (H : Hp) : List V → List PyData → Prop
  | n : DrL K H [] []
  | c {x : V} {vs : List V} {q : PyData} {qs : List PyData} : Dr K H x q → DrL K H vs qs → DrL K H (x :: vs) (q :: qs)
end
theorem one_len {k : Str} {z : Str} (h : (dictText [(PyData.str k).shown ++ ": " ++ z]).length ≤ sizeLine) : (reprText k).length ≤ sizeLine ∧ z.length ≤ sizeLine := by
  have h1 : ((PyData.str k).shown ++ ": " ++ z).length ≤ sizeLine := Nat.le_trans (dictText_mem_le List.mem_cons_self) h
  rw [Str.length_append, Str.length_append] at h1
  have h2 : (PyData.str k).shown = reprText k := by simp only [PyData.shown]
  rw [h2] at h1
  omega
section
variable {X : Cx} {pins : List (Addr × Obj)} {σ : L2.St} {H : Hp} {s : Shared}
/-- a dict with one text in the heap -/
theorem dk_one {p : Addr} {k : Str} {y : V} (I : Inv X pins σ H s) (h : H p = some (.dK [(Sum.inr k, y)])) : ∃ o n ent t2, s.heap.get? p = some o ∧ o.cls = .type "dict" ∧ o.data = .dict #[ent] n ∧ (p == sysModules) = false ∧ ent.key = .str k t2 ∧ RelV y ent.val := by
  obtain ⟨_, hn, vs, rel, o, es, m, ho, hx, hd, _, hpp, _⟩ := dk_of I.hok h
  cases rel with
  | cons e1 rest =>
    cases rest
    rename_i kv _nd
    obtain ⟨kk, v'⟩ := kv
    obtain ⟨ek, ev⟩ := e1
    have ek : (Sum.inr k : Key) = kk := ek
    subst ek
    obtain ⟨el⟩ := es
    have hpp : Pairs _ el [(Sum.inr k, v')] := hpp
    cases hpp with
    | cons hk hv rest =>
      cases rest
      rename_i e _
      obtain ⟨t2, hk2⟩ : ∃ t2, e.key = Value.str k t2 := by
        rcases keyIs_shape (k := Sum.inr k) (v := e.key) hk with ⟨i, t, a, b⟩ | ⟨x, t, a, b⟩
        · cases a
        · injection a with a
          subst a
          exact ⟨t, b⟩
      have hv : e.val = v' := hv
      exact ⟨o, m, e, t2, ho, hx.1, hd, hn, hk2, by rw [hv]; exact ev⟩
mutual
theorem Dr.told (I : Inv X pins σ H s) : ∀ (p : PyData) (x : V) (u : Value), Dr X.K H x p → RelV x u → p.showable = true → p.shown.length ≤ sizeLine → Told X.prog X.w s.heap u p
  | .none, _, _, h, r, _, _ => by
    cases h
    cases r
    refine ⟨_, [], .none, (fun _ z => nomatch z), ?_⟩
    simp only [PyData.shown]
    exact .of_is .none _ _ _
  | .bool b, _, _, h, r, _, _ => by
    cases h
    cases r
    refine ⟨_, [], .bool b, (fun _ z => nomatch z), ?_⟩
    simp only [PyData.shown]
    exact .of_is (.bool b) _ _ _
  | .int i, _, _, h, r, hs, _ => by
    cases h
    obtain ⟨t, rfl⟩ := r
    have hi : i.natAbs.log2 < 1920 := by simpa [PyData.showable] using hs
    refine ⟨_, [], .int i t, (fun _ z => nomatch z), ?_⟩
    simp only [PyData.shown]
    exact .of_is (.int t hi) _ _ _
  | .str y, _, _, h, r, _, hz => by
    cases h
    obtain ⟨t, rfl⟩ := r
    have hy : (reprText y).length ≤ sizeLine := by simpa only [PyData.shown] using hz
    refine ⟨_, [], .str y t, (fun _ z => nomatch z), ?_⟩
    simp only [PyData.shown]
    exact .of_is (.str y t hy) _ _ _
  | .list l, _, _, h, r, hs, hz => by
    cases h with
    | ql sq q =>
      cases r
      obtain ⟨its, rv, ⟨o, n, ho, hc, _, hd⟩, _⟩ := I.list sq
      have hl : (listText (PyData.shownAll l)).length ≤ sizeLine := by simpa only [PyData.shown] using hz
      obtain ⟨ads, bs, rd, am, k⟩ := DrL.told I l _ its q rv (by simpa [PyData.showable] using hs) fun t ht => Nat.le_trans (listText_mem_le ht) hl
      have whole : Reads s.heap _ (.list l) _ := .list ho hc hd rd
      have out := not_mem_of_deeper whole (by simp only [PyData.depth]; omega) am
      refine ⟨_, _, whole, .cons whole (by simp only [PyData.depth]; omega) am, ?_⟩
      simp only [PyData.shown, PyData.depth]
      cases its with
      | nil =>
        cases rd
        exact ReprK.listEmpty ho hc hd
      | cons y t => exact ReprK.list ho hc hd out (by simpa using k.length_eq) fun i z e => k.item i z (by simpa using e)
  | .tuple l, _, _, h, r, hs, hz => by
    cases h with
    | qt sq q =>
      cases r
      obtain ⟨its, rv, ⟨o, ho, hc, n, hd⟩, _⟩ := I.tuple sq
      have hl : (tupleText (PyData.shownAll l)).length ≤ sizeLine := by simpa only [PyData.shown] using hz
      obtain ⟨ads, bs, rd, am, k⟩ := DrL.told I l _ its q rv (by simpa [PyData.showable] using hs) fun t ht => Nat.le_trans (tupleText_mem_le ht) hl
      have whole : Reads s.heap _ (.tuple l) _ := .tuple ho hc hd rd
      have out := not_mem_of_deeper whole (by simp only [PyData.depth]; omega) am
      refine ⟨_, _, whole, .cons whole (by simp only [PyData.depth]; omega) am, ?_⟩
      simp only [PyData.shown, PyData.depth]
      exact ReprK.tuple ho hc hd out k
  | .dict kvs, _, _, h, r, hs, hz => by
    cases h with
    | qd hd =>
      cases r
      obtain ⟨o, n, ho, hc, hd, hn⟩ := dk_nil I hd
      have whole : Reads s.heap _ (.dict []) _ := .dict ho hc hd .nil .nil
      have am : ReadAtMost s.heap 0 [] := fun _ z => nomatch z
      refine ⟨_, _, whole, .cons whole (Nat.zero_le _) am, ?_⟩
      simp only [PyData.shown, PyData.depth, PyData.shownKv]
      exact ReprK.dict ho hc hd hn (fun z => nomatch z) .nil
    | q1 hp hv =>
      rename_i p k y q
      cases r
      have hsq : q.showable = true := by simpa [PyData.showable, PyData.showableKv] using hs
      have hz1 : (dictText [(PyData.str k).shown ++ ": " ++ q.shown]).length ≤ sizeLine := by simpa only [PyData.shown, PyData.shownKv] using hz
      obtain ⟨l1, l2⟩ := one_len hz1
      obtain ⟨o, n, ent, t2, ho, hc, hd, hn, ek, ev⟩ := dk_one I hp
      obtain ⟨a1, b1, r1, m1, k1⟩ := Dr.told I q _ _ hv ev hsq l2
      have whole : Reads s.heap _ (.dict [(.str k, q)]) _ := .dict ho hc hd (.cons (by show Reads s.heap ent.key (.str k) _; rw [ek]; exact .str k t2) .nil) (.cons r1 .nil)
      have e1 : PyData.depthKv [(PyData.str k, q)] = q.depth := by simp [PyData.depthKv, PyData.depth]
      have out := not_mem_of_deeper whole (by simp only [PyData.depth, e1]; omega) m1
      refine ⟨_, _, whole, .cons whole (by simp only [PyData.depth, e1]; omega) m1, ?_⟩
      simp only [PyData.shown, PyData.shownKv]
      show ReprK _ _ _ _ (PyData.depth (.dict [(.str k, q)])) _ _
      simp only [PyData.depth, e1]
      refine ReprK.dict ho hc hd hn out (.cons ?_ k1 .nil)
      rw [ek]
      exact .of_is (.str k t2 l1) _ _ _
theorem DrL.told (I : Inv X pins σ H s) : ∀ (ps : List PyData) (xs : List V) (us : List Value), DrL X.K H xs ps → Vals xs us → PyData.showableAll ps = true → (∀ t ∈ PyData.shownAll ps, t.length ≤ sizeLine) → ToldL X.prog X.w s.heap us ps
  | [], _, _, h, r, _, _ => by
    cases h
    cases r
    refine ⟨_, [], .nil, (fun _ z => nomatch z), ?_⟩
    simp only [PyData.shownAll]
    exact .nil
  | p :: ps, _, _, h, r, hs, hz => by
    cases h with
    | c q1 q2 =>
      cases r with
      | cons r1 r2 =>
        have hs : p.showable = true ∧ PyData.showableAll ps = true := by simpa [PyData.showableAll] using hs
        simp only [PyData.shownAll] at hz
        exact ToldL.c (Dr.told I p _ _ q1 r1 hs.1 (hz _ List.mem_cons_self)) (DrL.told I ps _ _ q2 r2 hs.2 fun t ht => hz t (List.mem_cons_of_mem _ ht))
end
end
def rRepU (K : PySem.W.Frag) : List V → Hp → VK → Prop := fun xs H Q => ∃ x p, xs = [x] ∧ Dr K H x p ∧ ShwQ p ∧ Q (.str p.shown) H
theorem call_reprU {X : Cx} (hg : X.A.guards = some []) (hu : X.A.units + 64 < cLine) : CallR X (.builtin "repr") (rRepU X.K) := by
  intro pins s σ H xs us Q I r h
  obtain ⟨x, p, rfl, hp, hs, q⟩ := h
  obtain ⟨u, rfl, rx⟩ := vals1 r
  have fin : ∀ t tk, EP X pins σ Q (.str p.shown t) { s with toks := tk } := fun t tk => ⟨.str p.shown, H, I.tok _, ⟨_, rfl⟩, q⟩
  have fin2 : ∀ h' t tk, (∀ b o, s.heap.get? b = some o → h'.get? b = some o) → EP X pins σ Q (.str p.shown t) { s with heap := h', toks := tk } := fun h' t tk hk => ⟨.str p.shown, H, I.kept (t' := tk) hk, ⟨_, rfl⟩, q⟩
  have hdp := hs.dp
  cases hp with
  | qn =>
    cases rx
    exact PySem.P.repr_of_none (fin _ _)
  | qb b =>
    cases rx
    refine PySem.P.repr_of_bool ?_
    have e : (if b then "True" else "False" : Str) = (PyData.bool b).shown := by cases b <;> rfl
    exact fin _ _
  | qi i =>
    obtain ⟨t, rfl⟩ := rx
    have h1 : i.natAbs.log2 < 1920 := by simpa [PyData.showable] using hs.sh
    exact PySem.P.repr_of_int h1 (fin _ _)
  | qs z =>
    obtain ⟨t, rfl⟩ := rx
    exact PySem.P.repr_of_str (fin _ _) (by simpa [PyData.shown] using hs.sz)
  | ql sq ql =>
    rename_i a vs l
    cases rx
    obtain ⟨its, rv, ⟨o, n, ho, hc, _, hd⟩, _⟩ := I.list sq
    have hl : (listText (PyData.shownAll l)).length ≤ sizeLine := by simpa only [PyData.shown] using hs.sz
    obtain ⟨ads, bs, rd, am, k⟩ := DrL.told I l _ its ql rv (by simpa [PyData.showable] using hs.sh) fun t ht => Nat.le_trans (listText_mem_le ht) hl
    have whole : Reads s.heap _ (.list l) _ := .list ho hc hd rd
    have out := not_mem_of_deeper whole (by simp only [PyData.depth]; omega) am
    simp only [PyData.depth] at hdp
    simp only [PyData.shown] at fin2
    refine call_repr_slot (by omega) ⟨o, ho, hc⟩ F.slot_list_repr.toG ?_
    cases its with
    | nil =>
      cases rd
      simp only [PyData.shownAll, listText_nil] at fin2
      exact call_list_repr_empty ⟨o, ho, hc⟩ ho hd ⟨_, _, rfl, fin2 _ _ _ fun _ _ e => e⟩
    | cons y t => exact call_list_reprK (h₀ := s.heap) ho hc hd out (by simpa using k.length_eq) (fun i z e => k.item i z (by simpa using e)) hg (fun b _ => Clear.nil b) (by show X.A.units + 1 + _ < _; omega) (fun _ _ e => e) (fun h' u tk hk => ⟨_, _, rfl, fin2 h' u tk hk⟩) hl
  | qt sq ql =>
    rename_i a vs l
    cases rx
    obtain ⟨its, rv, ⟨o, ho, hc, n, hd⟩, _⟩ := I.tuple sq
    have hl : (tupleText (PyData.shownAll l)).length ≤ sizeLine := by simpa only [PyData.shown] using hs.sz
    obtain ⟨ads, bs, rd, am, k⟩ := DrL.told I l _ its ql rv (by simpa [PyData.showable] using hs.sh) fun t ht => Nat.le_trans (tupleText_mem_le ht) hl
    have whole : Reads s.heap _ (.tuple l) _ := .tuple ho hc hd rd
    have out := not_mem_of_deeper whole (by simp only [PyData.depth]; omega) am
    simp only [PyData.depth] at hdp
    simp only [PyData.shown] at fin2
    refine call_repr_slot (by omega) ⟨o, ho, hc⟩ F.slot_tuple_repr ?_
    exact call_tuple_reprK (h₀ := s.heap) ho hc hd out k hg (fun b _ => Clear.nil b) (by show X.A.units + 1 + _ < _; omega) (fun _ _ e => e) (fun h' u tk hk => ⟨_, _, rfl, fin2 h' u tk hk⟩) hl
  | qd hd =>
    rename_i a
    cases rx
    obtain ⟨o, n, ho, hc, hd, hn⟩ := dk_nil I hd
    simp only [PyData.shown, PyData.shownKv] at fin2
    refine call_repr_slot (by omega) ⟨o, ho, hc⟩ F.slot_dict_repr ?_
    exact call_dict_reprK (h₀ := s.heap) (as := []) (d := 0) ho hc hd hn (fun z => nomatch z) .nil hg (fun b _ => Clear.nil b) (by show X.A.units + 1 + _ < _; omega) (fun _ _ e => e) (fun h' u tk hk => ⟨_, _, rfl, fin2 h' u tk hk⟩) (by simpa only [PyData.shown, PyData.shownKv] using hs.sz)
  | q1 hp2 hv =>
    rename_i a k y q0
    cases rx
    have hsq : q0.showable = true := by simpa [PyData.showable, PyData.showableKv] using hs.sh
    have hz1 : (dictText [(PyData.str k).shown ++ ": " ++ q0.shown]).length ≤ sizeLine := by simpa only [PyData.shown, PyData.shownKv] using hs.sz
    obtain ⟨l1, l2⟩ := one_len hz1
    obtain ⟨o, n, ent, t2, ho, hc, hd, hn, ek, ev⟩ := dk_one I hp2
    obtain ⟨a1, b1, r1, m1, k1⟩ := Dr.told I q0 _ _ hv ev hsq l2
    have whole : Reads s.heap _ (.dict [(.str k, q0)]) _ := .dict ho hc hd (.cons (by show Reads s.heap ent.key (.str k) _; rw [ek]; exact .str k t2) .nil) (.cons r1 .nil)
    have e1 : PyData.depthKv [(PyData.str k, q0)] = q0.depth := by simp [PyData.depthKv, PyData.depth]
    have out := not_mem_of_deeper whole (by simp only [PyData.depth, e1]; omega) m1
    simp only [PyData.depth, e1] at hdp
    simp only [PyData.shown, PyData.shownKv] at fin2
    refine call_repr_slot (by omega) ⟨o, ho, hc⟩ F.slot_dict_repr ?_
    have hE : ReprEntriesK X.prog X.w b1 s.heap q0.depth (#[ent] : Array DictEntry).toList [(PyData.str k).shown ++ ": " ++ q0.shown] := by
      refine .cons ?_ k1 .nil
      rw [ek]
      simp only [PyData.shown]
      exact .of_is (.str k t2 l1) _ _ _
    simp only [PyData.shown] at hE
    exact call_dict_reprK (h₀ := s.heap) ho hc hd hn out hE hg (fun b _ => Clear.nil b) (by show X.A.units + 1 + _ < _; omega) (fun _ _ e => e) (fun h' u tk hk => ⟨_, _, rfl, fin2 h' u tk hk⟩) hz1
end N
set_option Elab.async false
set_option linter.all false
set_option maxRecDepth 100000
set_option maxHeartbeats 2000000
namespace N
open PySem PySem.Spec PyProof.Rows L2
def Drv (d : D) (q : PyData) : Prop := ∀ (F : FmKit) (T : Kx) (H O : Hp), Dis O H → ∀ x, Den F T H d x → Dr T.K (ov O H) x q
theorem ca_reprU {F : FmKit} {T : Kx} {W : Om} {R : D → Om → Prop} {d : D} {q : PyData} (h : Drv d q) (hs : ShwQ q) (r : R (.str q.shown) W) : Ca F T (rRepU T.K) [d] W R := ca_one fun C H O di oc ow x k Q qq =>
  ⟨x, q, rfl, h F T H O di x k, hs, qq _ W H O _ r (.refl di oc ow) rfl⟩
inductive Drvs : List D → List PyData → Prop
  | n : Drvs [] []
  | c {d : D} {q : PyData} {ds : List D} {qs : List PyData} : Drv d q → Drvs ds qs → Drvs (d :: ds) (q :: qs)
theorem Drvs.run {F : FmKit} {T : Kx} {H O : Hp} (di : Dis O H) : ∀ {ds : List D} {qs : List PyData}, Drvs ds qs → ∀ xs, DenL F T H ds xs → DrL T.K (ov O H) xs qs
  | _, _, .n, xs, k => by
    have k : xs = [] := k
    subst k
    exact .n
  | _, _, .c h t, xs, k => by
    obtain ⟨x, r, rfl, k1, k2⟩ := k
    exact .c (h F T H O di x k1) (t.run di r k2)
theorem drv_non : Drv .non .none := fun F T H O di x k => by
  have k : x = .non := k
  subst k
  exact .qn
theorem drv_bl (b : Bool) : Drv (.bl b) (.bool b) := fun F T H O di x k => by
  have k : x = .bl b := k
  subst k
  exact .qb b
theorem drv_int (i : Int) : Drv (.int i) (.int i) := fun F T H O di x k => by
  have k : x = .int i := k
  subst k
  exact .qi i
theorem drv_str (s : Str) : Drv (.str s) (.str s) := fun F T H O di x k => by
  have k : x = .str s := k
  subst k
  exact .qs s
theorem drv_lst {ds : List D} {qs : List PyData} (h : Drvs ds qs) : Drv (.lst ds) (.list qs) := fun F T H O di x k => by
  obtain ⟨a, xs, rfl, hs, kl⟩ := k
  exact .ql (SqL.of (di.same _ _ hs)) (h.run di xs kl)
theorem drv_tup {ds : List D} {qs : List PyData} (h : Drvs ds qs) : Drv (.tup ds) (.tuple qs) := fun F T H O di x k => by
  obtain ⟨a, xs, rfl, hs, kl⟩ := k
  exact .qt (Same.sqT di.same hs) (h.run di xs kl)
theorem drv_d0 : Drv (.dct [] []) (.dict []) := fun F T H O di x k => by
  obtain ⟨a, kvs, rfl, h2, h3, _, _⟩ := k
  rw [List.map_eq_nil_iff] at h3
  subst h3
  exact .qd (di.same _ _ h2)
theorem drv_d1 {s : Str} {d : D} {q : PyData} (h : Drv d q) : Drv (.dct [Sum.inr s] [d]) (.dict [(.str s, q)]) := fun F T H O di x k => by
  obtain ⟨a, kvs, rfl, h2, h3, _, h5⟩ := k
  match kvs, h3, h2, h5 with
  | [(kk, y)], h3, h2, h5 =>
    obtain rfl : kk = Sum.inr s := by simpa using h3
    obtain ⟨v, r, e, k1, k2⟩ := h5
    obtain ⟨rfl, _⟩ := List.cons.inj (show [y] = v :: r from e)
    exact .q1 (di.same _ _ h2) (h F T H O di y k1)
/-- a value, with what repr tells: its leaves short, its weight, its depth -/
structure Vok (m n : Nat) (d : D) (q : PyData) : Prop where
  dr : Drv d q
  sh : q.showable = true
  lf : q.leavesShort 400 = true
  wt : q.weight ≤ m
  dp : q.depth ≤ n
inductive Voks (m n : Nat) : List D → List PyData → Prop
  | n : Voks m n [] []
  | c {d : D} {q : PyData} {ds : List D} {qs : List PyData} : Vok m n d q → Voks m n ds qs → Voks m n (d :: ds) (q :: qs)
theorem Voks.len {m n : Nat} : ∀ {ds : List D} {qs : List PyData}, Voks m n ds qs → qs.length = ds.length
  | _, _, .n => rfl
  | _, _, .c _ t => congrArg (· + 1) t.len
theorem Voks.all {m n : Nat} : ∀ {ds : List D} {qs : List PyData}, Voks m n ds qs → Drvs ds qs ∧ PyData.showableAll qs = true ∧ PyData.leavesShortAll 400 qs = true ∧ PyData.weightAll qs ≤ (m + 2) * qs.length + 2 ∧ PyData.depthAll qs ≤ n
  | _, _, .n => ⟨.n, rfl, rfl, by simp [PyData.weightAll], by simp [PyData.depthAll]⟩
  | _, _, .c h t => by
    obtain ⟨h1, h2, h3, h4, h5⟩ := t.all
    refine ⟨.c h.dr h1, ?_, ?_, ?_, ?_⟩
    · rw [PyData.showableAll, h.sh, h2]; rfl
    · rw [PyData.leavesShortAll, h.lf, h3]; rfl
    · have := h.wt
      rw [PyData.weightAll, List.length_cons, Nat.mul_add]
      omega
    · have := h.dp
      rw [PyData.depthAll]
      omega
theorem Voks.app {m n : Nat} {d : D} {q : PyData} (h : Vok m n d q) : ∀ {ds : List D} {qs : List PyData}, Voks m n ds qs → Voks m n (ds ++ [d]) (qs ++ [q])
  | _, _, .n => .c h .n
  | _, _, .c h1 t => .c h1 (t.app h)
theorem vok_lst {m n : Nat} {ds : List D} {qs : List PyData} (h : Voks m n ds qs) (hl : ds.length ≤ 3) : Vok (3 * m + 20) (n + 1) (.lst ds) (.list qs) := by
  obtain ⟨h1, h2, h3, h4, h5⟩ := h.all
  have hl2 := h.len
  have hm : (m + 2) * qs.length ≤ (m + 2) * 3 := Nat.mul_le_mul_left _ (by omega)
  refine ⟨drv_lst h1, by simpa [PyData.showable] using h2, by simpa [PyData.leavesShort] using h3, ?_, ?_⟩
  · simp only [PyData.weight]
    omega
  · simp only [PyData.depth]
    omega
theorem vok_tup {m n : Nat} {ds : List D} {qs : List PyData} (h : Voks m n ds qs) (hl : ds.length ≤ 3) : Vok (3 * m + 20) (n + 1) (.tup ds) (.tuple qs) := by
  obtain ⟨h1, h2, h3, h4, h5⟩ := h.all
  have hl2 := h.len
  have hm : (m + 2) * qs.length ≤ (m + 2) * 3 := Nat.mul_le_mul_left _ (by omega)
  refine ⟨drv_tup h1, by simpa [PyData.showable] using h2, by simpa [PyData.leavesShort] using h3, ?_, ?_⟩
  · simp only [PyData.weight]
    omega
  · simp only [PyData.depth]
    omega
theorem vok_d1 {m n : Nat} {d : D} {q : PyData} (h : Vok m n d q) : Vok (m + 30) (n + 1) (.dct [Sum.inr "part"] [d]) (.dict [(.str "part", q)]) := by
  refine ⟨drv_d1 h.dr, ?_, ?_, ?_, ?_⟩
  · have := h.sh
    simp [PyData.showable, PyData.showableKv, this]
  · have := h.lf
    simp only [PyData.leavesShort, PyData.leavesShortKv, this]
    decide +kernel
  · have := h.wt
    have e : (PyData.str "part").weight ≤ 10 := by decide +kernel
    have e2 : (PyData.dict [(.str "part", q)]).weight = (PyData.str "part").weight + q.weight + 2 + 0 := by simp only [PyData.weight, PyData.weightKv]
    omega
  · have := h.dp
    simp only [PyData.depth, PyData.depthKv]
    omega
theorem Vok.mono {m n m' n' : Nat} {d : D} {q : PyData} (h : Vok m n d q) (h1 : m ≤ m') (h2 : n ≤ n') : Vok m' n' d q := ⟨h.dr, h.sh, h.lf, Nat.le_trans h.wt h1, Nat.le_trans h.dp h2⟩
theorem Vok.shw {m n : Nat} {d : D} {q : PyData} (h : Vok m n d q) (h1 : m ≤ 10000) (h2 : n ≤ 30) : ShwQ q := by
  have hw := h.wt
  have hd := h.dp
  have e := PyData.shown_le 400 (by decide) q h.lf
  have h16 := sizeLine_eq
  have hm : (400 + 2) * q.weight ≤ (400 + 2) * 10000 := Nat.mul_le_mul_left _ (by omega)
  exact ⟨h.sh, by omega, by omega⟩
/-- what is drawn -/
def menu01 : List (D × PyData) := [(.int 0, .int 0), (.int 1, .int 1), (.int (-1), .int (-1)), (.int (10 ^ (39 : Int).toNat), .int (10 ^ (39 : Int).toNat)), (.bl true, .bool true), (.bl false, .bool false), (.non, .none), (.str "", .str ""), (.str "x", .str "x"), (.str (Txt.mul "a" 200), .str (Txt.mul "a" 200)),
  (.tup [], .tuple []), (.lst [], .list []), (.dct [] [], .dict []), (.tup [.int 1, .int 2], .tuple [.int 1, .int 2]), (.tup [.tup [.str "x", .int 1]], .tuple [.tuple [.str "x", .int 1]])]
theorem menu_ok : ∀ p ∈ menu01, Vok 300 3 p.1 p.2 := by
  intro p hp
  simp only [menu01, List.mem_cons, List.not_mem_nil, or_false] at hp
  rcases hp with rfl | rfl | rfl | rfl | rfl | rfl | rfl | rfl | rfl | rfl | rfl | rfl | rfl | rfl | rfl
  · exact ⟨drv_int _, by decide +kernel, by decide +kernel, by decide +kernel, by decide +kernel⟩
  · exact ⟨drv_int _, by decide +kernel, by decide +kernel, by decide +kernel, by decide +kernel⟩
  · exact ⟨drv_int _, by decide +kernel, by decide +kernel, by decide +kernel, by decide +kernel⟩
  · exact ⟨drv_int _, by decide +kernel, by decide +kernel, by decide +kernel, by decide +kernel⟩
  · exact ⟨drv_bl _, by decide +kernel, by decide +kernel, by decide +kernel, by decide +kernel⟩
  · exact ⟨drv_bl _, by decide +kernel, by decide +kernel, by decide +kernel, by decide +kernel⟩
  · exact ⟨drv_non, by decide +kernel, by decide +kernel, by decide +kernel, by decide +kernel⟩
  · exact ⟨drv_str _, by decide +kernel, by decide +kernel, by decide +kernel, by decide +kernel⟩
  · exact ⟨drv_str _, by decide +kernel, by decide +kernel, by decide +kernel, by decide +kernel⟩
  · exact ⟨drv_str _, by decide +kernel, by decide +kernel, by decide +kernel, by decide +kernel⟩
  · exact ⟨drv_tup .n, by decide +kernel, by decide +kernel, by decide +kernel, by decide +kernel⟩
  · exact ⟨drv_lst .n, by decide +kernel, by decide +kernel, by decide +kernel, by decide +kernel⟩
  · exact ⟨drv_d0, by decide +kernel, by decide +kernel, by decide +kernel, by decide +kernel⟩
  · exact ⟨drv_tup (.c (drv_int _) (.c (drv_int _) .n)), by decide +kernel, by decide +kernel, by decide +kernel, by decide +kernel⟩
  · exact ⟨drv_tup (.c (drv_tup (.c (drv_str _) (.c (drv_int _) .n))) .n), by decide +kernel, by decide +kernel, by decide +kernel, by decide +kernel⟩
/-- the bounds of a drawn value -/
def vB : Nat → Nat
  | 0 => 300
  | n + 1 => 3 * vB n + 60
theorem vB_le : ∀ n, 300 ≤ vB n
  | 0 => Nat.le_refl _
  | n + 1 => by
    have := vB_le n
    show 300 ≤ 3 * vB n + 60
    omega
def S_value01 (j : Nat) : FS := fun ds W post => ∃ (a : Addr) (c : Int) (n : Nat), ds = [.adr a, natD n] ∧ DkA a c W ∧ n < j ∧ n ≤ 3 ∧ c + 10 ^ (n + 1) < 2 ^ 50 ∧ ∀ (d : D) (q : PyData) (W' : Om), Vok (vB n) (3 + 2 * n) d q → DkA a (c + 10 ^ (n + 1)) W' → post d W'
def ec (i : Nat) : Nat := if i < 10 then 30 + i else 90 + i
def errF (i : Nat) : Str := if i = 0 then "value" else if i = 1 then "place" else if i = 2 ∨ i = 3 ∨ i = 7 then "part" else if i = 4 ∨ i = 5 then "mark" else if i = 6 then "web" else if i = 9 then "wish" else "name"
/-- an error with what it was made of -/
def ErrV (cl : Nat → Addr) (hx : Hx) (i : Nat) (z : D) (a : Addr) (W : Om) : Prop := if i < 10 then ∃ d, ErrAt cl hx a (ec i) (some d) W ∧ FldAt (some d) [(errF i, z)] W else ErrAt cl hx a (ec i) none W
theorem ErrV.mono {cl : Nat → Addr} {hx : Hx} {i : Nat} {z : D} {a : Addr} {W W' : Om} (h : ErrV cl hx i z a W) (s : ∀ x ∈ W, x ∈ W') : ErrV cl hx i z a W' := by
  unfold ErrV at *
  split at h
  · rename_i hi
    rw [if_pos hi]
    obtain ⟨d, h1, h2⟩ := h
    exact ⟨d, h1.mono s, h2.mono s⟩
  · rename_i hi
    rw [if_neg hi]
    exact h.mono s
theorem ErrV.any {cl : Nat → Addr} {hx : Hx} {i : Nat} {z : D} {a : Addr} {W : Om} (h : ErrV cl hx i z a W) : ∃ d fs, ErrAt cl hx a (ec i) d W ∧ FldAt d fs W := by
  unfold ErrV at h
  split at h
  · obtain ⟨d, h1, h2⟩ := h
    exact ⟨_, _, h1, h2⟩
  · exact ⟨none, [], h, .inl ⟨rfl, rfl⟩⟩
theorem ErrV.fld {cl : Nat → Addr} {hx : Hx} {i : Nat} {z : D} {a : Addr} {W : Om} (h : ErrV cl hx i z a W) (hi : i < 10) : ∃ d, ErrAt cl hx a (30 + i) (some d) W ∧ FldAt (some d) [(errF i, z)] W := by
  unfold ErrV at h
  rw [if_pos hi] at h
  obtain ⟨d, h1, h2⟩ := h
  unfold ec at h1
  rw [if_pos hi] at h1
  exact ⟨d, h1, h2⟩
/-- the classes in order -/
def cs12 (cl : Nat → Addr) : List Addr := [cl 30, cl 31, cl 32, cl 33, cl 34, cl 35, cl 36, cl 37, cl 38, cl 39, cl 100, cl 101]
theorem cs_get (cl : Nat → Addr) {i : Nat} (hi : i < 12) : (cs12 cl)[i]? = some (cl (ec i)) := by
  match i, hi with
  | 0, _ => rfl
  | 1, _ => rfl
  | 2, _ => rfl
  | 3, _ => rfl
  | 4, _ => rfl
  | 5, _ => rfl
  | 6, _ => rfl
  | 7, _ => rfl
  | 8, _ => rfl
  | 9, _ => rfl
  | 10, _ => rfl
  | 11, _ => rfl
theorem kit_all {K : PySem.W.Frag} {cl : Nat → Addr} (h : kitAll K (cs12 cl) = true) {i j : Nat} (hi : i < 12) (hj : j < 12) : PySem.W.kitOne K (.ref (cl (ec i))) (.ref (cl (ec j))) = some (decide (i = j)) := by
  have h1 := List.all_eq_true.mp h (cl (ec i), i) (List.mk_mem_zipIdx_iff_getElem?.mpr (cs_get cl hi))
  have h2 := List.all_eq_true.mp h1 (cl (ec j), j) (List.mk_mem_zipIdx_iff_getElem?.mpr (cs_get cl hj))
  exact of_decide_eq_true h2
theorem kit_five {K : PySem.W.Frag} {cl : Nat → Addr} (h : kitFive K (cs12 cl) = true) {i : Nat} (hi : i < 12) {t : String} (ht : t ∈ five01) : PySem.W.kitOne K (.ref (cl (ec i))) (.type t) = some false :=
  of_decide_eq_true (List.all_eq_true.mp (List.all_eq_true.mp h _ (List.mem_of_getElem? (cs_get cl hi))) t ht)
theorem exm_all {K : PySem.W.Frag} {cl : Nat → Addr} {b : Addr} (h : exmAll K (cs12 cl) b = true) {i : Nat} (hi : i < 12) : PySem.W.exmOne K (.ref (cl (ec i))) (.ref b) = some true ∧ PySem.W.kitOne K (.ref (cl (ec i))) (.ref b) = some true := by
  have := List.all_eq_true.mp h _ (List.mem_of_getElem? (cs_get cl hi))
  rw [Bool.and_eq_true, decide_eq_true_eq, decide_eq_true_eq] at this
  exact this
def S_isof (cl : Nat → Addr) (hx : Hx) : FS := fun ds W post => ∃ (a : Addr) (i j : Nat) (z : D), ds = [.adr a, natD j] ∧ i < 12 ∧ j < 12 ∧ ErrV cl hx i z a W ∧ post (.bl (decide (i = j))) W
def S_toldE (cl : Nat → Addr) (hx : Hx) : FS := fun ds W post => ∃ (a : Addr) (i : Nat) (z : D), ds = [natD i, .adr a] ∧ i < 10 ∧ ErrV cl hx i z a W ∧ post z W
def S_madeE (cl : Nat → Addr) : FS := fun ds W post => ∃ (i : Nat) (z : D), ds = [natD i, z] ∧ i < 10 ∧ W = [] ∧ ∀ a W', ErrV cl none i z a W' → post (.adr a) W'
def S_raised1 : FX := fun ds W post ex => ∃ (i : Nat) (z : D), ds = [natD i, z] ∧ i < 6 ∧ W = [] ∧ ∀ d, ex (30 + i) d [(d, .xd [errF i] [z])]
def S_raised2 : FX := fun ds W post ex => ∃ (i : Nat) (z : D), ds = [natD i, z] ∧ 6 ≤ i ∧ i < 12 ∧ W = [] ∧ (i < 10 → ∀ d, ex (30 + i) d [(d, .xd [errF i] [z])]) ∧ (10 ≤ i → ex (90 + i) 0 [])
def S_caughtE : FS := fun ds W post => ∃ (i : Nat) (z : D) (q : PyData), ds = [natD i, z] ∧ i < 12 ∧ W = [] ∧ Drv z q ∧ ShwQ q ∧ ∀ W', post (.lst [.bl true, .bl true]) W'
theorem errV_mk {cl : Nat → Addr} {i c : Nat} {f : Str} {z : D} {a d : Addr} {W : Om} (h : i < 10) (hc : c = 30 + i) (hf : f = errF i) (m1 : (a, OD.any (XvO (.ref (cl c)) (some d) a)) ∈ W) (m2 : (d, OD.xd [f] [z]) ∈ W) : ErrV cl none i z a W := by
  subst hc hf
  unfold ErrV ec
  rw [if_pos h, if_pos h]
  exact ⟨d, .inr m1, .inr ⟨d, rfl, m2⟩⟩
def blP01 (l : List Bool) : PyData := .list (l.map .bool)
theorem eqv_blA01 : ∀ a b : List Bool, PyData.eqvAll (a.map .bool) (b.map .bool) = decide (a = b)
  | [], [] => by simp [PyData.eqvAll]
  | [], b :: l => by simp [PyData.eqvAll]
  | a :: l, [] => by simp [PyData.eqvAll]
  | a :: l, b :: m => by
    rw [List.map_cons, List.map_cons, PyData.eqvAll, eqv_blA01 l m, PyData.eqv, Bool.eq_iff_iff]
    simp
theorem lay_bl01 (l : List Bool) : PyData.canLayAll0 (l.map .bool) = true := by
  induction l with
  | nil => rfl
  | cons i l ih => rw [List.map_cons, PyData.canLayAll0, ih]; rfl
theorem dep_bl01 (l : List Bool) : PyData.depthAll (l.map .bool) = 0 := by
  induction l with
  | nil => rfl
  | cons i l ih => rw [List.map_cons, PyData.depthAll, ih]; rfl
theorem shaped_bl01 (l : List Bool) : SeqAt.shaped (blP01 l) = true := by
  unfold SeqAt.shaped blP01
  rw [PyData.canLay0, lay_bl01, PyData.depth, dep_bl01]
  decide
theorem vp_bl01 {W : Om} (l : List Bool) : Vp W (.lst (l.map D.bl)) (blP01 l) := .inl (pd_lst (pdL_map D.bl .bool (fun _ => rfl) l))
theorem row_eq {i j : Nat} (hi : i < 12) (hj : j < 12) : decide ((List.range 12).map (fun k => decide (i = k)) = (List.range 12).map fun k => decide (k = j)) = decide (i = j) := by
  rw [Bool.eq_iff_iff, decide_eq_true_eq, decide_eq_true_eq]
  constructor
  · intro h
    have e : ((List.range 12).map fun k => decide (i = k))[i]? = ((List.range 12).map fun k => decide (k = j))[i]? := congrArg (fun l : List Bool => l[i]?) h
    rw [List.getElem?_map, List.getElem?_map, List.getElem?_range hi] at e
    have e := Option.some.inj e
    simpa using e
  · rintro rfl
    exact List.map_congr_left fun k _ => by rw [Bool.eq_iff_iff, decide_eq_true_eq, decide_eq_true_eq]; exact eq_comm
section
variable {F : FmKit} {T : Kx} {W : Om} {R : D → Om → Prop}
theorem bo_eqBl {a b : List Bool} (r : R (.bl (decide (a = b))) W) : Bo F T (rEqD T.K) (.lst (a.map D.bl)) (.lst (b.map D.bl)) W R := by
  refine bo_eqD (vp_bl01 a) (vp_bl01 b) (shaped_bl01 a) (shaped_bl01 b) ?_
  unfold blP01
  rw [PyData.eqv, eqv_blA01]
  exact r
theorem bo_neBl {a b : List Bool} (r : R (.bl (!decide (a = b))) W) : Bo F T (rNeD T.K) (.lst (a.map D.bl)) (.lst (b.map D.bl)) W R := by
  refine bo_neD (vp_bl01 a) (vp_bl01 b) (shaped_bl01 a) (shaped_bl01 b) ?_
  unfold blP01
  rw [PyData.eqv, eqv_blA01]
  exact r
theorem bo_row {i j : Nat} (hi : i < 12) (hj : j < 12) (r : R (.bl (decide (i = j))) W) : Bo F T (rEqD T.K) (.lst ((List.range 12).map fun k => D.bl (decide (i = k)))) (.lst ((List.range 12).map fun k => D.bl (decide (k = j)))) W R := by
  have e1 : (List.range 12).map (fun k => D.bl (decide (i = k))) = ((List.range 12).map fun k => decide (i = k)).map D.bl := by rw [List.map_map]; rfl
  have e2 : (List.range 12).map (fun k => D.bl (decide (k = j))) = ((List.range 12).map fun k => decide (k = j)).map D.bl := by rw [List.map_map]; rfl
  rw [e1, e2]
  refine bo_eqBl ?_
  rw [row_eq hi hj]
  exact r
end
end N
set_option Elab.async false
set_option linter.all false
set_option maxRecDepth 100000
set_option maxHeartbeats 2000000
namespace N
open PySem PySem.Spec PyProof.Rows L2
theorem isVal_ok {K : Fg} {C : Addr} {m : Str} {u : Value} (h : isVal K C m u = true) : PySem.W.findCls K (.ref C) (.type "type") m = some (.val u) := by
  unfold isVal at h
  cases e : PySem.W.findCls K (.ref C) (.type "type") m with
  | none => rw [e] at h; cases h
  | some z =>
    rw [e] at h
    cases z with
    | val v =>
      have h : decide (v = u) = true := h
      rw [of_decide_eq_true h]
    | get g a o t => cases h
theorem isExc_ok {K : Fg} {C CW : Addr} (h : isExc K C CW = true) : ∃ nm q N bs sn sub ab col dd k0 k1 k2 k3 k5, K.lookup C = some (excClassObj nm q C N bs [.ref CW, .type "Exception", .type "BaseException", .type "object"] true sn sub ab col dd k0 k1 k2 k3 k5 "Exception.__new__") := by
  unfold isExc at h
  split at h
  · rename_i c dd cd sl e
    obtain ⟨c1, c2, c3, c4, c5, c6, c7, c8, c9, c10, c11⟩ := cd
    obtain ⟨sl⟩ := sl
    simp only [Bool.and_eq_true, decide_eq_true_eq, Bool.not_eq_true'] at h
    obtain ⟨h1, h2, h3, h4, h5⟩ := h
    subst h1 h2 h3 h4
    split at h5
    · rename_i k0 k1 k2 k3 v k5 es
      have h5 := of_decide_eq_true h5
      subst h5
      exact ⟨_, _, _, _, _, _, _, _, _, _, _, _, _, _, e⟩
    · cases h5
  · cases h
theorem isNon_ok {v : Value} (h : isNon v = true) : v = .none := by
  cases v <;> first | rfl | cases h
theorem DefT.get {K : Fg} {d : DefT} (e : fnY K (d.at_ K) = d.val) (c : d.ok K = true) : ∃ oc od osl dV kV doc pm an cdv ct, K.lookup (d.at_ K) = some ⟨oc, od, .func (PySem.W.fnOf d.name d.qual (defArgs d.st) (defBody d.st) (defScope d.st) dV kV doc pm an cdv ct), osl⟩ ∧ PySem.W.codeIn K cdv d.qual = true ∧
    (match d.dn with
    | false => isNon dV
    | true => nonSeq K dV) = true ∧ PySem.W.keepIn K (.ref (d.at_ K)) = true := by
  obtain ⟨kp, c2⟩ := Bool.and_eq_true_iff.mp c
  unfold fnY at e
  cases q : K.lookup (d.at_ K) with
  | none =>
    rw [q] at c2
    cases c2
  | some o =>
    obtain ⟨oc, od, dt, osl⟩ := o
    rw [q] at c2 e
    cases dt with
    | func fd =>
      obtain ⟨n1, n2, n3, n4, n5, n6, n7, n8, n9, n10, n11, n12, n13, n14, n15⟩ := fd
      have e2 : (some (n1, n2, n3, n4, n5, n6, n7, n15) : He.FnW) = some (d.name, d.qual, defArgs d.st, .stmts (defBody d.st), defScope d.st, mainGlobals, [], builtinsNs) := e
      simp only [Option.some.injEq, Prod.mk.injEq] at e2
      obtain ⟨h1, h2, h3, h4, h5, h6, h7, h8⟩ := e2
      obtain ⟨c3, c4⟩ := Bool.and_eq_true_iff.mp (show (PySem.W.codeIn K n13 d.qual && (match d.dn with
    | false => isNon n8
    | true => nonSeq K n8)) = true from c2)
      subst h1 h2 h3 h4 h5 h6 h7 h8
      exact ⟨oc, od, osl, n8, n9, n10, n11, n12, n13, n14, rfl, c3, c4, kp⟩
    | _ => cases c2
theorem DefT.fun_ {K : Fg} {d : DefT} (e : fnY K (d.at_ K) = d.val) (c : d.ok K = true) (hd : d.dn = false) : ∃ fd, Fun K d.name d.qual d.st (d.at_ K) fd := by
  obtain ⟨oc, od, osl, dV, kV, doc, pm, an, cdv, ct, l, cc, dn, kp⟩ := d.get e c
  rw [hd] at dn
  obtain rfl := isNon_ok dn
  exact ⟨_, fun_mk l cc kp⟩
section
variable {ts : List (Fg → Bool)} {fn : List DefT} {dk : List DicT} {w : World} {K : Fg}
theorem SaysT.test (c : SaysT ts fn dk w K) (i : Nat) {t : Fg → Bool} (h : ts[i]? = some t := by rfl) : t K = true := by
  have c1 := (Bool.and_eq_true_iff.mp (show ((ts.all fun t => t K) && (fn.all fun d => d.ok K)) = true from congrArg (fun z : AlT => z.1) c)).1
  exact List.all_eq_true.mp c1 t (List.mem_of_getElem? h)
theorem SaysT.def_ (c : SaysT ts fn dk w K) (i : Nat) {d : DefT} (h : fn[i]? = some d) : fnY K (d.at_ K) = d.val ∧ d.ok K = true := by
  have c2 := (Bool.and_eq_true_iff.mp (show ((ts.all fun t => t K) && (fn.all fun d => d.ok K)) = true from congrArg (fun z : AlT => z.1) c)).2
  have e : fn.map (fun d => fnY K (d.at_ K)) = fn.map DefT.val := congrArg (fun z : AlT => z.2.1) c
  have e2 : (fn.map fun d => fnY K (d.at_ K))[i]? = (fn.map DefT.val)[i]? := by rw [e]
  rw [List.getElem?_map, List.getElem?_map, h] at e2
  exact ⟨Option.some.inj e2, List.all_eq_true.mp c2 d (List.mem_of_getElem? h)⟩
theorem SaysT.fun_ (c : SaysT ts fn dk w K) (i : Nat) {d : DefT} (h : fn[i]? = some d := by rfl) (hd : d.dn = false := by rfl) : ∃ fd, Fun K d.name d.qual d.st (d.at_ K) fd := DefT.fun_ (c.def_ i h).1 (c.def_ i h).2 hd
end
theorem walkT {l : PySem.W.OpenLaw} {n k : Nat} {q : Program} {loose : List Str} {XP : (Str → Option Value) → Heap → Prop} {YP : World → Heap → Prop} {Sy : World → Fg → Prop} {d : DefRec} {sp : Fg → Sp}
    (hn : l.most = some n) (hn2 : n ≤ sizeLine) (hdf : d.params.defaults = []) (hr : Room k callerA) (hY : ∀ (w : World) (h : Heap), YP w h → ∃ K : Fg, K.In h ∧ Sy w K)
    (Fn : ∀ (w : World) (mg : Str → Option Value) (fa : Addr) (h : Heap) (K : Fg), K.In h → Sy w K → h.Ns mainGlobals mg → mg d.name = some (.ref fa) → ∀ base : Heap, K.In base → base.Ns mainGlobals mg → FnG l.prog w K mg base k fa (sp K))
    (hsp : ∀ (K : Fg) (H : Hp) (a : Addr) (ns : List Int), ns.length ≤ n → Only H → SqL K H a (ns.map V.int) → sp K [.ref a] H (fun v _ => v = .bl true) E0) :
    PySem.W.WalkO q loose XP YP l.row.toRowW d [] (fun f vs => PySem.call f vs) := by
  refine Att.attach_call hn hdf fun w s0 s1 mg mb fa o pm cd doc a vs ns G Y ho hd hcd hmg hobj hints hlen hg => ?_
  obtain ⟨K, KX, sy⟩ := hY w _ Y
  exact lawG KX G.T.g G.T.b G.T.builtins G.T.nolimit hg hobj hints (Nat.le_trans hlen hn2) hr (Fn w mg fa _ K KX sy G.T.g hmg) fun H hO hS => hsp K H a ns hlen hO hS
end N
set_option Elab.async false
set_option linter.all false
set_option maxRecDepth 100000
namespace N
open PySem PySem.Spec PyProof.Rows L2
open C8 (Cal Met Mak InsC pe_c pe_mt pe_mt0 pe_mk)
set_option maxHeartbeats 4000000
local macro_rules | `(tactic| walk_at "vl") => `(tactic| first | exact .inl (.inl rfl) | exact .inr ⟨_, rfl, List.mem_cons_self⟩ | exact .inr ⟨_, rfl, List.mem_cons_of_mem _ List.mem_cons_self⟩ | exact .inr ⟨_, rfl, List.mem_cons_of_mem _ (List.mem_cons_of_mem _ List.mem_cons_self)⟩ | exact .inr ⟨_, rfl, List.mem_cons_of_mem _ (List.mem_cons_of_mem _ (List.mem_cons_of_mem _ List.mem_cons_self))⟩ | exact .inl (.inr ⟨_, rfl, rfl⟩))
local macro_rules | `(tactic| walk_at "vt") => `(tactic| first | exact .inl rfl | exact .inr ⟨_, rfl, List.mem_cons_self⟩ | exact .inr ⟨_, rfl, List.mem_cons_of_mem _ List.mem_cons_self⟩ | exact .inr ⟨_, rfl, List.mem_cons_of_mem _ (List.mem_cons_of_mem _ List.mem_cons_self)⟩ | exact .inr ⟨_, rfl, List.mem_cons_of_mem _ (List.mem_cons_of_mem _ (List.mem_cons_of_mem _ List.mem_cons_self))⟩)
local macro_rules | `(tactic| walk_at "vd") => `(tactic| first | exact .inl rfl | exact .inr ⟨_, rfl, List.mem_cons_self⟩ | exact .inr ⟨_, rfl, List.mem_cons_of_mem _ List.mem_cons_self⟩ | exact .inr ⟨_, rfl, List.mem_cons_of_mem _ (List.mem_cons_of_mem _ List.mem_cons_self)⟩ | exact .inr ⟨_, rfl, List.mem_cons_of_mem _ (List.mem_cons_of_mem _ (List.mem_cons_of_mem _ List.mem_cons_self))⟩)
local macro_rules | `(tactic| walk_at "gg") => `(tactic| first | exact getG_hd _ _ _ | (refine getG_tl (by decide +kernel) ?_; walk_at "gg"))
local macro_rules | `(tactic| walk_at "vs") => `(tactic| first | exact .inr rfl | (refine .inl ?_; walk_at "vl"))
local macro_rules | `(tactic| walk_at "nc") => `(tactic| first | omega | (unfold CMul; omega) | (unfold CDiv; omega) | (unfold CPow; decide) | (show (0 : Int) < _; omega))
local macro_rules | `(tactic| walk_at "sx") => `(tactic| first
  | with_reducible refine swx_seq ?_ | with_reducible refine swx_set ?_ | with_reducible refine swx_if ?_ | with_reducible refine swx_asg ?_ | with_reducible refine swx_ret ?_ | with_reducible refine swx_drop ?_ | ((with_reducible refine' swx_raise ?h ?hc); (case hc => exact rfl)) | with_reducible refine swx_next ?_ | with_reducible refine swx_brk ?_ | with_reducible refine swx_cont ?_ | with_reducible refine swx_retN ?_ | with_reducible refine swx_par ?_ | with_reducible refine swx_fld ?_
  | with_reducible refine evx_call ?_ | with_reducible refine evx_cm ?_ | with_reducible refine evx_cmk ?_ | with_reducible refine evx_mk ?_ | with_reducible refine evx_mkk ?_ | with_reducible refine evx_of ?_)
local macro_rules | `(tactic| walk_at "s1") => `(tactic| first
  | with_reducible refine sw_seq ?_ | with_reducible refine sw_set ?_ | (with_reducible refine' ev_var ?h ?_); (case h => rfl) | with_reducible refine ev_c ?_ | with_reducible refine ev_op ?_
  | with_reducible refine bo_I0 ?_ | with_reducible refine ev_tup ?_ | with_reducible refine ev_lstF ?_ | with_reducible refine ev_cb ?_ | with_reducible refine ea_cons ?_ | with_reducible refine ea_nil ?_
  | with_reducible refine bo_eqI ?_ | with_reducible refine bo_neI ?_ | with_reducible refine bo_eqS ?_ | with_reducible refine bo_neS ?_ | with_reducible refine bo_eqB ?_ | with_reducible refine bo_neB ?_
  | with_reducible refine isi_str ?_ | (with_reducible refine' ca_intBt ?h1 ?_); (case h1 => decide +kernel) | (with_reducible refine' ca_intBf ?h1 ?_); (case h1 => decide +kernel) | with_reducible refine ca_intB ?_ | with_reducible refine ca_int ?_ | with_reducible refine ca_max2 ?_ | with_reducible refine ca_min2 ?_
  | with_reducible refine sw_if ?_ | with_reducible refine sw_ret ?_ | with_reducible refine sw_drop ?_ | with_reducible refine sw_setL ?_ | with_reducible refine sw_next ?_ | with_reducible refine sw_par ?_ | with_reducible refine ev_neg ?_ | with_reducible refine ev_mkF ?_ | with_reducible refine ev_inv ?_ | with_reducible refine ev_prpF ?_ | with_reducible refine ta_fld ?_ | with_reducible refine ta_name ?_ | (with_reducible refine' ta_tup ?hl ?_); (case hl => rfl) | with_reducible refine tas_cons ?_ | with_reducible refine tas_nil ?_
  | with_reducible refine et_ifE ?_ | with_reducible refine ev_orV ?_ | with_reducible refine ev_andV ?_ | with_reducible refine ev_notV ?_ | with_reducible refine et_or ?_ | with_reducible refine et_and ?_ | with_reducible refine sw_asgA ?_ | with_reducible refine sw_asg2 ?_ | with_reducible refine sw_asg3 ?_ | with_reducible refine sw_fld ?_ | with_reducible refine et_test ?_ | with_reducible refine et_B ?_ | with_reducible refine ⟨_, rfl, ?_⟩ | with_reducible refine ⟨_, _, rfl, ?_⟩ | with_reducible refine et_not ?_ | with_reducible refine ev_if ?_
  | (with_reducible refine' bo_ixL ?h1 ?h2 ?_); (case h1 => walk_at "vl"); (case h2 => rfl) | (with_reducible refine' bo_ixT ?h2 ?_); (case h2 => rfl) | with_reducible refine ev_call ?_ | ((with_reducible refine' ev_fwF ?hz ?hy ?_); (case hz => assumption); (case hy => assumption)) | (with_reducible refine' ev_fmF ?hz ?_; case hz => assumption) | with_reducible refine ev_fld ?_
  | with_reducible refine .inr ⟨_, _, rfl, FldW.below _, ?_⟩ | with_reducible refine .inr ⟨_, _, rfl, FldW.atoms _, ?_⟩ | with_reducible refine .inr ⟨_, _, rfl, FldW.bens _, ?_⟩ | with_reducible refine .inr ⟨_, _, rfl, FldW.hgts _, ?_⟩
  | with_reducible refine .inl ⟨_, _, rfl, FldF.kind _, ?_⟩ | with_reducible refine .inl ⟨_, _, rfl, FldF.parts _, ?_⟩ | with_reducible refine .inl ⟨_, _, rfl, FldF.many _, ?_⟩ | with_reducible refine .inl ⟨_, _, rfl, FldF.deep _, ?_⟩ | with_reducible refine .inl ⟨_, _, rfl, FldF.atoms _, ?_⟩ | with_reducible refine .inl ⟨_, _, rfl, FldF.bare _, ?_⟩ | with_reducible refine .inl ⟨_, _, rfl, FldF.spell _, ?_⟩ | with_reducible refine .inl ⟨_, _, rfl, FldF.alls _, ?_⟩
  | with_reducible refine ev_meth ?_ | ((with_reducible refine' ⟨_, _, inst_wb _, ?hm, ?_⟩); (case hm => decide +kernel)) | ((with_reducible refine' ⟨_, _, Inst.fm _, ?hm, ?_⟩); (case hm => decide +kernel))
  | with_reducible refine ⟨_, _, rfl, FldF.kind _, ?_⟩ | with_reducible refine ⟨_, _, rfl, FldF.parts _, ?_⟩ | with_reducible refine ⟨_, _, rfl, FldF.many _, ?_⟩ | with_reducible refine ⟨_, _, rfl, FldF.deep _, ?_⟩ | with_reducible refine ⟨_, _, rfl, FldF.atoms _, ?_⟩ | with_reducible refine ⟨_, _, rfl, FldF.bare _, ?_⟩ | with_reducible refine ⟨_, _, rfl, FldF.spell _, ?_⟩ | with_reducible refine ⟨_, _, rfl, FldF.alls _, ?_⟩
  | ((with_reducible refine' ⟨len_ok ?hl, ?_⟩); (case hl => exact Nat.le_of_ble_eq_true rfl))
  | (with_reducible refine' bo_I ?h1 ?_); (case h1 => walk_at "nc")
  | with_reducible refine ev_sl ?_ | with_reducible refine eo_none ?_ | with_reducible refine eo_some ?_ | (with_reducible refine' ca_slF ?h1 ?_); (case h1 => walk_at "vl") | with_reducible refine ev_revF ?_ | with_reducible refine ev_dget ?_ | with_reducible refine sw_dput ?_ | with_reducible refine ev_dispF ?_ | with_reducible refine eps_cons ?_ | with_reducible refine eps_nil ?_ | with_reducible refine exk_str ?_ | with_reducible refine exk_int ?_ | (with_reducible refine' dg_str ?h1 ?h2 ?_); (case h1 => walk_at "vd"); (case h2 => walk_at "gg")
  | with_reducible refine unr_cons ?_ | with_reducible refine unr_nil ?_ | with_reducible refine swu_cons ?_ | with_reducible refine swu_nil ?_ | with_reducible refine et_yes ?_ | with_reducible refine tg_name ?_ | (with_reducible refine' tw_name ?h1 ?_); (case h1 => simp) | ((with_reducible refine' ⟨acc_ok ?h1, ?_⟩); (case h1 => exact Nat.le_of_ble_eq_true rfl)) | with_reducible refine ei_tup ?_ | with_reducible refine ei_list ?_ | with_reducible refine ei_rng1 ?_
  | with_reducible refine ca_strF ?_ | with_reducible refine ca_lenF ?_ | with_reducible refine isi_tup ?_ | with_reducible refine isi_int ?_ | with_reducible refine isi_intB ?_ | with_reducible refine et_chain ?_ | with_reducible refine ev_chain ?_ | (with_reducible refine' isi_fm ?hz ?_; case hz => assumption)
  | (with_reducible refine' ca_len ?h1 ?_); (case h1 => walk_at "vs")
  | (with_reducible refine' if_so ?h1 ?_); (case h1 => first | rfl | decide +kernel) | (with_reducible refine' if_not ?h1 ?_); (case h1 => first | rfl | decide +kernel))
local macro_rules | `(tactic| walk_at "st") => `(tactic| repeat first | walk_at "s1" | walk_at "sx")
section
def top (i : Nat) : Stmt := PySem.Challenge.pw_allbeneath_k01_errors.main.body.getD i (.Pass ⟨0, 0, 0, 0⟩)
/-- what the module has written -/
structure ZZ (K : PySem.W.Frag) (w : World) (mg : Str → Option Value) (cl : Nat → Addr) where
  g_BadFormula : mg "BadFormula" = some (.ref (cl 30))
  x30 : ErC K (cl 30) "value"
  g_BadText : mg "BadText" = some (.ref (cl 31))
  x31 : ErC K (cl 31) "place"
  g_BadWeb : mg "BadWeb" = some (.ref (cl 32))
  x32 : ErC K (cl 32) "part"
  g_BadRules : mg "BadRules" = some (.ref (cl 33))
  x33 : ErC K (cl 33) "part"
  g_UnknownMark : mg "UnknownMark" = some (.ref (cl 34))
  x34 : ErC K (cl 34) "mark"
  g_Clash : mg "Clash" = some (.ref (cl 35))
  x35 : ErC K (cl 35) "mark"
  g_Apart : mg "Apart" = some (.ref (cl 36))
  x36 : ErC K (cl 36) "web"
  g_BadBook : mg "BadBook" = some (.ref (cl 37))
  x37 : ErC K (cl 37) "part"
  g_UnknownPlayer : mg "UnknownPlayer" = some (.ref (cl 38))
  x38 : ErC K (cl 38) "name"
  g_NoPlayer : mg "NoPlayer" = some (.ref (cl 39))
  x39 : ErC K (cl 39) "wish"
  g_NothingToUndo : mg "NothingToUndo" = some (.ref (cl 100))
  r100 : Er0 K mg "NothingToUndo" (cl 100)
  g_NothingToRedo : mg "NothingToRedo" = some (.ref (cl 101))
  r101 : Er0 K mg "NothingToRedo" (cl 101)
  g_WebError : mg "WebError" = some (.ref (cl 40))
  i30_40 : PySem.W.kitOne K (.ref (cl 30)) (.ref (cl 40)) = some true
  i31_40 : PySem.W.kitOne K (.ref (cl 31)) (.ref (cl 40)) = some true
  i32_40 : PySem.W.kitOne K (.ref (cl 32)) (.ref (cl 40)) = some true
  i33_40 : PySem.W.kitOne K (.ref (cl 33)) (.ref (cl 40)) = some true
  i34_40 : PySem.W.kitOne K (.ref (cl 34)) (.ref (cl 40)) = some true
  i35_40 : PySem.W.kitOne K (.ref (cl 35)) (.ref (cl 40)) = some true
  i36_40 : PySem.W.kitOne K (.ref (cl 36)) (.ref (cl 40)) = some true
  i37_40 : PySem.W.kitOne K (.ref (cl 37)) (.ref (cl 40)) = some true
  i38_40 : PySem.W.kitOne K (.ref (cl 38)) (.ref (cl 40)) = some true
  i39_40 : PySem.W.kitOne K (.ref (cl 39)) (.ref (cl 40)) = some true
  i100_40 : PySem.W.kitOne K (.ref (cl 100)) (.ref (cl 40)) = some true
  i101_40 : PySem.W.kitOne K (.ref (cl 101)) (.ref (cl 40)) = some true
  ec30 : ExcC K (cl 30)
  ec31 : ExcC K (cl 31)
  ec32 : ExcC K (cl 32)
  ec33 : ExcC K (cl 33)
  ec34 : ExcC K (cl 34)
  ec35 : ExcC K (cl 35)
  ec36 : ExcC K (cl 36)
  ec37 : ExcC K (cl 37)
  ec38 : ExcC K (cl 38)
  ec39 : ExcC K (cl 39)
  ec100 : ExcC K (cl 100)
  ec101 : ExcC K (cl 101)
  no_ValueError : mg "ValueError" = none
  no_LookupError : mg "LookupError" = none
  no_TypeError : mg "TypeError" = none
  no_ArithmeticError : mg "ArithmeticError" = none
  no_RuntimeError : mg "RuntimeError" = none
  kit12 : kitAll K [(cl 30), (cl 31), (cl 32), (cl 33), (cl 34), (cl 35), (cl 36), (cl 37), (cl 38), (cl 39), (cl 100), (cl 101)] = true
  kit5 : kitFive K [(cl 30), (cl 31), (cl 32), (cl 33), (cl 34), (cl 35), (cl 36), (cl 37), (cl 38), (cl 39), (cl 100), (cl 101)] = true
  exm12 : exmAll K [(cl 30), (cl 31), (cl 32), (cl 33), (cl 34), (cl 35), (cl 36), (cl 37), (cl 38), (cl 39), (cl 100), (cl 101)] (cl 40) = true
abbrev s_BadFormula___init__ : Stmt := inClass (top 2) 0
theorem sc_BadFormula___init__ : FnScope ["self", "value"] ["self", "value"] (defScope s_BadFormula___init__) := ⟨rfl, rfl, rfl, by decide +kernel, rfl, by decide +kernel, by decide +kernel⟩
theorem e_BadFormula {P : Program} {w : World} {K : PySem.W.Frag} {mg : Str → Option Value} {base : Heap} {cl : Nat → Addr} {f : Addr} {fd : FuncData} {BW : Addr} (iC : PySem.W.findIn K (.ref (cl 30)) "__init__" = some (some (.ref f))) (tI : PySem.W.typeIn K (.ref f) = some (.type "function")) (bw : BaseX K BW) (gw : mg "WebError" = some (.ref BW)) (Z : ZZ K w mg cl) (Fn : Fun K "__init__" "BadFormula.__init__" s_BadFormula___init__ f fd) : ErrU P w K mg base 1 "BadFormula" (cl 30) "value" := by
  exact errUD Z.x30 iC tI Z.g_BadFormula Fn sc_BadFormula___init__ rfl rfl (fun _ _ _ _ _ _ us hl => match us, hl with | [_, _], _ => rfl) (fun _ _ _ _ _ _ u ws hl => match ws, hl with | [_], _ => rfl) fun cdv A outer s H E => ⟨_, pss_cons (ps_expr (pe_exinit bw (by rfl) gw (pa_cons (pv 0) (pa_cons pe_str pa_nil)))) (pss_one (ps_osx (pv 0) (pv 1) rfl))⟩
abbrev s_BadText___init__ : Stmt := inClass (top 3) 0
theorem sc_BadText___init__ : FnScope ["self", "place"] ["self", "place"] (defScope s_BadText___init__) := ⟨rfl, rfl, rfl, by decide +kernel, rfl, by decide +kernel, by decide +kernel⟩
theorem e_BadText {P : Program} {w : World} {K : PySem.W.Frag} {mg : Str → Option Value} {base : Heap} {cl : Nat → Addr} {f : Addr} {fd : FuncData} {BW : Addr} (iC : PySem.W.findIn K (.ref (cl 31)) "__init__" = some (some (.ref f))) (tI : PySem.W.typeIn K (.ref f) = some (.type "function")) (bw : BaseX K BW) (gw : mg "WebError" = some (.ref BW)) (Z : ZZ K w mg cl) (Fn : Fun K "__init__" "BadText.__init__" s_BadText___init__ f fd) : ErrU P w K mg base 1 "BadText" (cl 31) "place" := by
  exact errUD Z.x31 iC tI Z.g_BadText Fn sc_BadText___init__ rfl rfl (fun _ _ _ _ _ _ us hl => match us, hl with | [_, _], _ => rfl) (fun _ _ _ _ _ _ u ws hl => match ws, hl with | [_], _ => rfl) fun cdv A outer s H E => ⟨_, pss_cons (ps_expr (pe_exinit bw (by rfl) gw (pa_cons (pv 0) (pa_cons pe_str pa_nil)))) (pss_one (ps_osx (pv 0) (pv 1) rfl))⟩
abbrev s_BadWeb___init__ : Stmt := inClass (top 4) 0
theorem sc_BadWeb___init__ : FnScope ["self", "part"] ["self", "part"] (defScope s_BadWeb___init__) := ⟨rfl, rfl, rfl, by decide +kernel, rfl, by decide +kernel, by decide +kernel⟩
theorem e_BadWeb {P : Program} {w : World} {K : PySem.W.Frag} {mg : Str → Option Value} {base : Heap} {cl : Nat → Addr} {f : Addr} {fd : FuncData} {BW : Addr} (iC : PySem.W.findIn K (.ref (cl 32)) "__init__" = some (some (.ref f))) (tI : PySem.W.typeIn K (.ref f) = some (.type "function")) (bw : BaseX K BW) (gw : mg "WebError" = some (.ref BW)) (Z : ZZ K w mg cl) (Fn : Fun K "__init__" "BadWeb.__init__" s_BadWeb___init__ f fd) : ErrU P w K mg base 1 "BadWeb" (cl 32) "part" := by
  exact errUD Z.x32 iC tI Z.g_BadWeb Fn sc_BadWeb___init__ rfl rfl (fun _ _ _ _ _ _ us hl => match us, hl with | [_, _], _ => rfl) (fun _ _ _ _ _ _ u ws hl => match ws, hl with | [_], _ => rfl) fun cdv A outer s H E => ⟨_, pss_cons (ps_expr (pe_exinit bw (by rfl) gw (pa_cons (pv 0) (pa_cons pe_str pa_nil)))) (pss_one (ps_osx (pv 0) (pv 1) rfl))⟩
abbrev s_BadRules___init__ : Stmt := inClass (top 5) 0
theorem sc_BadRules___init__ : FnScope ["self", "part"] ["self", "part"] (defScope s_BadRules___init__) := ⟨rfl, rfl, rfl, by decide +kernel, rfl, by decide +kernel, by decide +kernel⟩
theorem e_BadRules {P : Program} {w : World} {K : PySem.W.Frag} {mg : Str → Option Value} {base : Heap} {cl : Nat → Addr} {f : Addr} {fd : FuncData} {BW : Addr} (iC : PySem.W.findIn K (.ref (cl 33)) "__init__" = some (some (.ref f))) (tI : PySem.W.typeIn K (.ref f) = some (.type "function")) (bw : BaseX K BW) (gw : mg "WebError" = some (.ref BW)) (Z : ZZ K w mg cl) (Fn : Fun K "__init__" "BadRules.__init__" s_BadRules___init__ f fd) : ErrU P w K mg base 1 "BadRules" (cl 33) "part" := by
  exact errUD Z.x33 iC tI Z.g_BadRules Fn sc_BadRules___init__ rfl rfl (fun _ _ _ _ _ _ us hl => match us, hl with | [_, _], _ => rfl) (fun _ _ _ _ _ _ u ws hl => match ws, hl with | [_], _ => rfl) fun cdv A outer s H E => ⟨_, pss_cons (ps_expr (pe_exinit bw (by rfl) gw (pa_cons (pv 0) (pa_cons pe_str pa_nil)))) (pss_one (ps_osx (pv 0) (pv 1) rfl))⟩
abbrev s_UnknownMark___init__ : Stmt := inClass (top 6) 0
theorem sc_UnknownMark___init__ : FnScope ["self", "mark"] ["self", "mark"] (defScope s_UnknownMark___init__) := ⟨rfl, rfl, rfl, by decide +kernel, rfl, by decide +kernel, by decide +kernel⟩
theorem e_UnknownMark {P : Program} {w : World} {K : PySem.W.Frag} {mg : Str → Option Value} {base : Heap} {cl : Nat → Addr} {f : Addr} {fd : FuncData} {BW : Addr} (iC : PySem.W.findIn K (.ref (cl 34)) "__init__" = some (some (.ref f))) (tI : PySem.W.typeIn K (.ref f) = some (.type "function")) (bw : BaseX K BW) (gw : mg "WebError" = some (.ref BW)) (Z : ZZ K w mg cl) (Fn : Fun K "__init__" "UnknownMark.__init__" s_UnknownMark___init__ f fd) : ErrU P w K mg base 1 "UnknownMark" (cl 34) "mark" := by
  exact errUD Z.x34 iC tI Z.g_UnknownMark Fn sc_UnknownMark___init__ rfl rfl (fun _ _ _ _ _ _ us hl => match us, hl with | [_, _], _ => rfl) (fun _ _ _ _ _ _ u ws hl => match ws, hl with | [_], _ => rfl) fun cdv A outer s H E => ⟨_, pss_cons (ps_expr (pe_exinit bw (by rfl) gw (pa_cons (pv 0) (pa_cons pe_str pa_nil)))) (pss_one (ps_osx (pv 0) (pv 1) rfl))⟩
abbrev s_Clash___init__ : Stmt := inClass (top 7) 0
theorem sc_Clash___init__ : FnScope ["self", "mark"] ["self", "mark"] (defScope s_Clash___init__) := ⟨rfl, rfl, rfl, by decide +kernel, rfl, by decide +kernel, by decide +kernel⟩
theorem e_Clash {P : Program} {w : World} {K : PySem.W.Frag} {mg : Str → Option Value} {base : Heap} {cl : Nat → Addr} {f : Addr} {fd : FuncData} {BW : Addr} (iC : PySem.W.findIn K (.ref (cl 35)) "__init__" = some (some (.ref f))) (tI : PySem.W.typeIn K (.ref f) = some (.type "function")) (bw : BaseX K BW) (gw : mg "WebError" = some (.ref BW)) (Z : ZZ K w mg cl) (Fn : Fun K "__init__" "Clash.__init__" s_Clash___init__ f fd) : ErrU P w K mg base 1 "Clash" (cl 35) "mark" := by
  exact errUD Z.x35 iC tI Z.g_Clash Fn sc_Clash___init__ rfl rfl (fun _ _ _ _ _ _ us hl => match us, hl with | [_, _], _ => rfl) (fun _ _ _ _ _ _ u ws hl => match ws, hl with | [_], _ => rfl) fun cdv A outer s H E => ⟨_, pss_cons (ps_expr (pe_exinit bw (by rfl) gw (pa_cons (pv 0) (pa_cons pe_str pa_nil)))) (pss_one (ps_osx (pv 0) (pv 1) rfl))⟩
abbrev s_Apart___init__ : Stmt := inClass (top 8) 0
theorem sc_Apart___init__ : FnScope ["self", "web"] ["self", "web"] (defScope s_Apart___init__) := ⟨rfl, rfl, rfl, by decide +kernel, rfl, by decide +kernel, by decide +kernel⟩
theorem e_Apart {P : Program} {w : World} {K : PySem.W.Frag} {mg : Str → Option Value} {base : Heap} {cl : Nat → Addr} {f : Addr} {fd : FuncData} {BW : Addr} (iC : PySem.W.findIn K (.ref (cl 36)) "__init__" = some (some (.ref f))) (tI : PySem.W.typeIn K (.ref f) = some (.type "function")) (bw : BaseX K BW) (gw : mg "WebError" = some (.ref BW)) (Z : ZZ K w mg cl) (Fn : Fun K "__init__" "Apart.__init__" s_Apart___init__ f fd) : ErrU P w K mg base 1 "Apart" (cl 36) "web" := by
  exact errUD Z.x36 iC tI Z.g_Apart Fn sc_Apart___init__ rfl rfl (fun _ _ _ _ _ _ us hl => match us, hl with | [_, _], _ => rfl) (fun _ _ _ _ _ _ u ws hl => match ws, hl with | [_], _ => rfl) fun cdv A outer s H E => ⟨_, pss_cons (ps_expr (pe_exinit bw (by rfl) gw (pa_cons (pv 0) (pa_cons pe_str pa_nil)))) (pss_one (ps_osx (pv 0) (pv 1) rfl))⟩
abbrev s_BadBook___init__ : Stmt := inClass (top 9) 0
theorem sc_BadBook___init__ : FnScope ["self", "part"] ["self", "part"] (defScope s_BadBook___init__) := ⟨rfl, rfl, rfl, by decide +kernel, rfl, by decide +kernel, by decide +kernel⟩
theorem e_BadBook {P : Program} {w : World} {K : PySem.W.Frag} {mg : Str → Option Value} {base : Heap} {cl : Nat → Addr} {f : Addr} {fd : FuncData} {BW : Addr} (iC : PySem.W.findIn K (.ref (cl 37)) "__init__" = some (some (.ref f))) (tI : PySem.W.typeIn K (.ref f) = some (.type "function")) (bw : BaseX K BW) (gw : mg "WebError" = some (.ref BW)) (Z : ZZ K w mg cl) (Fn : Fun K "__init__" "BadBook.__init__" s_BadBook___init__ f fd) : ErrU P w K mg base 1 "BadBook" (cl 37) "part" := by
  exact errUD Z.x37 iC tI Z.g_BadBook Fn sc_BadBook___init__ rfl rfl (fun _ _ _ _ _ _ us hl => match us, hl with | [_, _], _ => rfl) (fun _ _ _ _ _ _ u ws hl => match ws, hl with | [_], _ => rfl) fun cdv A outer s H E => ⟨_, pss_cons (ps_expr (pe_exinit bw (by rfl) gw (pa_cons (pv 0) (pa_cons pe_str pa_nil)))) (pss_one (ps_osx (pv 0) (pv 1) rfl))⟩
abbrev s_UnknownPlayer___init__ : Stmt := inClass (top 10) 0
theorem sc_UnknownPlayer___init__ : FnScope ["self", "name"] ["self", "name"] (defScope s_UnknownPlayer___init__) := ⟨rfl, rfl, rfl, by decide +kernel, rfl, by decide +kernel, by decide +kernel⟩
theorem e_UnknownPlayer {P : Program} {w : World} {K : PySem.W.Frag} {mg : Str → Option Value} {base : Heap} {cl : Nat → Addr} {f : Addr} {fd : FuncData} {BW : Addr} (iC : PySem.W.findIn K (.ref (cl 38)) "__init__" = some (some (.ref f))) (tI : PySem.W.typeIn K (.ref f) = some (.type "function")) (bw : BaseX K BW) (gw : mg "WebError" = some (.ref BW)) (Z : ZZ K w mg cl) (Fn : Fun K "__init__" "UnknownPlayer.__init__" s_UnknownPlayer___init__ f fd) : ErrU P w K mg base 1 "UnknownPlayer" (cl 38) "name" := by
  exact errUD Z.x38 iC tI Z.g_UnknownPlayer Fn sc_UnknownPlayer___init__ rfl rfl (fun _ _ _ _ _ _ us hl => match us, hl with | [_, _], _ => rfl) (fun _ _ _ _ _ _ u ws hl => match ws, hl with | [_], _ => rfl) fun cdv A outer s H E => ⟨_, pss_cons (ps_expr (pe_exinit bw (by rfl) gw (pa_cons (pv 0) (pa_cons pe_str pa_nil)))) (pss_one (ps_osx (pv 0) (pv 1) rfl))⟩
abbrev s_NoPlayer___init__ : Stmt := inClass (top 11) 0
theorem sc_NoPlayer___init__ : FnScope ["self", "wish"] ["self", "wish"] (defScope s_NoPlayer___init__) := ⟨rfl, rfl, rfl, by decide +kernel, rfl, by decide +kernel, by decide +kernel⟩
theorem e_NoPlayer {P : Program} {w : World} {K : PySem.W.Frag} {mg : Str → Option Value} {base : Heap} {cl : Nat → Addr} {f : Addr} {fd : FuncData} {BW : Addr} (iC : PySem.W.findIn K (.ref (cl 39)) "__init__" = some (some (.ref f))) (tI : PySem.W.typeIn K (.ref f) = some (.type "function")) (bw : BaseX K BW) (gw : mg "WebError" = some (.ref BW)) (Z : ZZ K w mg cl) (Fn : Fun K "__init__" "NoPlayer.__init__" s_NoPlayer___init__ f fd) : ErrU P w K mg base 1 "NoPlayer" (cl 39) "wish" := by
  exact errUD Z.x39 iC tI Z.g_NoPlayer Fn sc_NoPlayer___init__ rfl rfl (fun _ _ _ _ _ _ us hl => match us, hl with | [_, _], _ => rfl) (fun _ _ _ _ _ _ u ws hl => match ws, hl with | [_], _ => rfl) fun cdv A outer s H E => ⟨_, pss_cons (ps_expr (pe_exinit bw (by rfl) gw (pa_cons (pv 0) (pa_cons pe_str pa_nil)))) (pss_one (ps_osx (pv 0) (pv 1) rfl))⟩
end
section
abbrev s_law_deck : Stmt := top 15
theorem sc_law_deck : FnScope ["_law_script", "_law_mixed", "_law_cell"] ["_law_script"] (defScope s_law_deck) := ⟨rfl, rfl, rfl, by decide +kernel, rfl, by decide +kernel, by decide +kernel⟩
theorem c_law_deck {P : Program} {w : World} {K : PySem.W.Frag} {mg : Str → Option Value} {base : Heap} {cl : Nat → Addr} {f : Addr} {fd : FuncData} (hm : mg "_law_deck" = some (.ref f)) (B : Blt mg) (Z : ZZ K w mg cl) (Fn : Fun K "_law_deck" "_law_deck" s_law_deck f fd) : Cal P w K mg base 1 "_law_deck" (spN FK ⟨K, cl⟩ (S_deck DkA)) [] := by
  refine calD hm Fn sc_law_deck (by intro ds W post h; first | (obtain ⟨rfl, _⟩ := h; rfl) | (obtain ⟨_, rfl, _⟩ := h; rfl) | (obtain ⟨_, _, rfl, _⟩ := h; rfl) | (obtain ⟨_, _, _, rfl, _⟩ := h; rfl) | (obtain ⟨_, _, _, _, rfl, _⟩ := h; rfl) | (obtain ⟨_, _, _, _, _, rfl, _⟩ := h; rfl) | (obtain ⟨_, _, _, _, _, _, rfl, _⟩ := h; rfl) | (obtain ⟨_, _, _, _, _, _, _, rfl, _⟩ := h; rfl) | (obtain ⟨_, _, _, _, _, _, _, _, rfl, _⟩ := h; rfl) | (obtain ⟨_, _, _, _, _, _, _, _, _, rfl, _⟩ := h; rfl) | (obtain ⟨_, _, _, _, _, _, _, _, _, _, rfl, _⟩ := h; rfl) | (obtain ⟨_, _, _, _, _, _, _, _, _, _, _, rfl, _⟩ := h; rfl)) (fun _ _ _ _ _ _ us hl => match us, hl with | [_], _ => rfl) fun cdv A outer s H E hr => ⟨_, pss_cons (ps_set (i := 1) sc_law_deck.nd rfl (Or.inl rfl) pe_int)
 (pss_cons (ps_for PassesOwn.never rfl (pi_list (pe_slice sl_list (pv 0) po_none (po_some pe_int))) (pg_name (i := 2) sc_law_deck.nd rfl (Or.inl rfl)) (pss_one (ps_set (i := 1) sc_law_deck.nd rfl (Or.inl rfl) (pe_op op_mod (pe_callTy call_int1 (by rfl) B.int bt_int (pa_cons (pe_op op_add (pe_op op_add (pe_op op_mul (pv 1) pe_int) (pe_op op_mod (pe_callTy call_int1 (by rfl) B.int bt_int (pa_cons (pv 2) pa_nil)) pe_int)) pe_int) pa_nil)) pe_int))))
 (pss_one (ps_ret (pe_disp (pps_cons pe_str (pe_revL (pe_lc (own := [("_law_cell", 2)]) (by rfl) sc_law_deck.nd (pi_list (pe_slice sl_list (pv 0) po_none (po_some pe_int))) (blkOk_by (own := [("_law_cell", 2)]) (N := ["_law_script", "_law_mixed", "_law_cell"]) (sc := defScope s_law_deck) (by decide +kernel)) (fun _ _ _ _ _ => (pg_name (i := 2) sc_law_deck.nd rfl (Or.inl rfl))) (fun _ _ _ _ _ => pts_one (pt_cmpR op_ge (pv 2) (pe_op op_pow pe_int pe_int) (nomark _))) (fun _ _ _ _ _ => (pv 2)))) (pps_cons pe_str (pv 1) (pps_cons pe_str pe_int pps_nil))) (by rfl) (by rfl) (fun z => by cases z) (by decide))))), ?_⟩
  rintro ds W post ⟨ns, rfl, rfl, hl, k⟩
  try dsimp only [cxOf, Cx.nox, Cx.wish]
  have hc : cutD ((ns.map V.int).map D.vl) none (some 63) = ns.map D.int := (cut63 (by simpa using hl)).trans (by rw [List.map_map]; rfl)
  walk_at "st"
  refine sw_for (ei_list ?_)
  walk_at "st"
  rw [hc]
  refine ⟨fun i G W => W = [] ∧ ∃ (st : Int) (o : Option D), 0 ≤ st ∧ st < 2147483648 ∧ G = [some (.scr (ns.map V.int)), some (.int st), o], ⟨rfl, _, _, by omega, by omega, rfl⟩, ?_, ?_⟩
  · rintro i d G' W' hd ⟨rfl, st, o, h0, h1, rfl⟩
    rw [List.getElem?_map] at hd
    obtain ⟨z, hz, e⟩ := Option.map_eq_some_iff.mp hd
    subst e
    refine tg_name ?_
    walk_at "st"
    exact ⟨rfl, _, _, Int.emod_nonneg _ (by omega), Int.lt_of_lt_of_le (Int.emod_lt_of_pos _ (by omega)) (by omega), rfl⟩
  · rintro G' W' ⟨rfl, st, o, h0, h1, rfl⟩
    refine sw_ret (ev_disp (eps_cons (ev_c (ev_revL (ev_lcF (ei_list ?_))))))
    walk_at "st"
    rw [hc]
    refine ⟨fun i acc W => W = [] ∧ ∃ cells : List Int, acc = cells.map D.int ∧ cells.length ≤ i, ⟨rfl, [], rfl, Nat.le_refl _⟩, ?_, ?_⟩
    · rintro i d acc W' hd ⟨rfl, cells, rfl, hz⟩
      have hi : i < (ns.map D.int).length := (List.getElem?_eq_some_iff.mp hd).1
      rw [List.getElem?_map] at hd
      obtain ⟨z, hz2, e⟩ := Option.map_eq_some_iff.mp hd
      subst e
      refine tw_name (by simp) ?_
      walk_at "st"
      refine if_bl (fun e => ?_) (fun e => ?_)
      · walk_at "st"
        refine ⟨by have := sizeLine_eq; simp at hi ⊢; omega, rfl, cells ++ [z], by simp, by simp; omega⟩
      · exact ⟨rfl, cells, rfl, by omega⟩
    · rintro acc W' ⟨rfl, cells, rfl, hz⟩
      refine ⟨_, .inl (.inl rfl), fun p hp => ?_⟩
      walk_at "st"
      refine ⟨by simp, fun p2 hp2 => ?_⟩
      rw [mergeG_nd (by simp only [List.map_cons, List.map_nil, List.nil_append, List.cons_append]; decide +kernel)]
      refine k p2 _ ⟨p, cells.reverse, st, 0, ?_, ?_, by omega, by omega⟩
      · unfold dkA
        rw [List.map_reverse]
        rfl
      · simp at hz ⊢
        omega
abbrev s_law_draw : Stmt := top 16
theorem sc_law_draw : FnScope ["_law_deck_here", "_law_many", "_law_cell", "_law_lap", "_law_mixed"] ["_law_deck_here", "_law_many"] (defScope s_law_draw) := ⟨rfl, rfl, rfl, by decide +kernel, rfl, by decide +kernel, by decide +kernel⟩
theorem c_law_draw {P : Program} {w : World} {K : PySem.W.Frag} {mg : Str → Option Value} {base : Heap} {cl : Nat → Addr} {f : Addr} {fd : FuncData} (hm : mg "_law_draw" = some (.ref f)) (B : Blt mg) (Z : ZZ K w mg cl) (Fn : Fun K "_law_draw" "_law_draw" s_law_draw f fd) : Cal P w K mg base 1 "_law_draw" (spN FK ⟨K, cl⟩ (S_draw DkA)) [] := by
  refine calD hm Fn sc_law_draw (by intro ds W post h; first | (obtain ⟨rfl, _⟩ := h; rfl) | (obtain ⟨_, rfl, _⟩ := h; rfl) | (obtain ⟨_, _, rfl, _⟩ := h; rfl) | (obtain ⟨_, _, _, rfl, _⟩ := h; rfl) | (obtain ⟨_, _, _, _, rfl, _⟩ := h; rfl) | (obtain ⟨_, _, _, _, _, rfl, _⟩ := h; rfl) | (obtain ⟨_, _, _, _, _, _, rfl, _⟩ := h; rfl) | (obtain ⟨_, _, _, _, _, _, _, rfl, _⟩ := h; rfl) | (obtain ⟨_, _, _, _, _, _, _, _, rfl, _⟩ := h; rfl) | (obtain ⟨_, _, _, _, _, _, _, _, _, rfl, _⟩ := h; rfl) | (obtain ⟨_, _, _, _, _, _, _, _, _, _, rfl, _⟩ := h; rfl) | (obtain ⟨_, _, _, _, _, _, _, _, _, _, _, rfl, _⟩ := h; rfl)) (fun _ _ _ _ _ _ us hl => match us, hl with | [_, _], _ => rfl) fun cdv A outer s H E hr => ⟨_, pss_cons (ps_if (pt_cmpR (op_neD hr.units) (pe_dget (by exact hu_of hr) (pv 0) pe_str (fun _ _ => rfl)) (pe_lst pa_nil) (nomark _)) (pss_cons (ps_set (i := 2) sc_law_draw.nd rfl (Or.inl rfl) (pe_callTy call_int1 (by rfl) B.int bt_int (pa_cons (pe_bm0 PySem.F.plainAttrs_list PySem.F.slot_list_pop PySem.F.type_list_pop mt_pop (pe_dget (by exact hu_of hr) (pv 0) pe_str (fun _ _ => rfl))) pa_nil)))
 (pss_cons (ps_if (pt_cmpR op_ge (pv 2) (pv 1) (nomark _)) (pss_one (ps_expr (pe_bm PySem.F.plainAttrs_list PySem.F.slot_list_append PySem.F.type_list_append mt_append (pe_dget (by exact hu_of hr) (pv 0) pe_str (fun _ _ => rfl)) (pa_cons (pe_op op_fdiv (pv 2) (pv 1)) pa_nil)))) (pss_nil))
 (pss_one (ps_ret (pe_op op_mod (pv 2) (pv 1)))))) (pss_nil))
 (pss_cons (ps_set (i := 3) sc_law_draw.nd rfl (Or.inl rfl) (pe_op op_add (pe_dget (by exact hu_of hr) (pv 0) pe_str (fun _ _ => rfl)) pe_int))
 (pss_cons (ps_dput (by exact hu_of hr) (pv 0) pe_str (pv 3) rfl)
 (pss_cons (ps_set (i := 4) sc_law_draw.nd rfl (Or.inl rfl) (pe_op op_mod (pe_callTy call_int1 (by rfl) B.int bt_int (pa_cons (pe_op op_mul (pe_callTy call_int1 (by rfl) B.int bt_int (pa_cons (pe_op op_add (pe_op op_add (pe_dget (by exact hu_of hr) (pv 0) pe_str (fun _ _ => rfl)) (pe_op op_mul (pe_op op_mul pe_int (pv 3)) (pv 3))) pe_int) pa_nil)) pe_int) pa_nil)) pe_int))
 (pss_cons (ps_set (i := 4) sc_law_draw.nd rfl (Or.inl rfl) (pe_op op_mod (pe_callTy call_int1 (by rfl) B.int bt_int (pa_cons (pe_op op_add (pe_op op_mul (pv 4) (pv 4)) (pe_op op_mul pe_int (pv 3))) pa_nil)) pe_int))
 (pss_one (ps_ret (pe_op op_mod (pe_op op_fdiv (pe_op op_mod (pe_callTy call_int1 (by rfl) B.int bt_int (pa_cons (pe_op op_mul (pv 4) pe_int) pa_nil)) pe_int) pe_int) (pv 1)))))))), ?_⟩
  rintro ds W post ⟨a, c, n, rfl, ⟨l, cells, s, m, rfl, hl, c0, c2⟩, n0, n1, c1, k⟩
  try dsimp only [cxOf, Cx.nox, Cx.wish]
  walk_at "st"
  refine bo_neD (vp_ints (.inr ⟨_, rfl, List.mem_cons_of_mem _ List.mem_cons_self⟩)) vp_nil (shaped_ints cells) rfl ⟨_, rfl, ?_⟩
  rw [eqv_nil]
  have h16 := sizeLine_eq
  rcases List.eq_nil_or_concat cells with e | ⟨init, x, e⟩
  · subst e
    refine if_not rfl ?_
    walk_at "st"
    refine ⟨a, _, Sum.inr _, [], _, rfl, rfl, rfl, by simp; omega, ?_⟩
    rw [putG_set (i := 2) (by simp only [List.map_cons, List.map_nil]; decide +kernel) rfl]
    walk_at "st"
    refine k _ _ (Int.emod_nonneg _ (by omega)) (Int.emod_lt_of_pos _ n0) ⟨l, [], s, m + 1, rfl, by simp, by omega, by omega⟩
  · subst e
    refine if_so (by simp) ?_
    refine sw_seq (sw_set (ev_cb (ea_cons (ev_pop ?_))))
    walk_at "st"
    refine ⟨l, init.map D.int, [(a, .dp [(kS "great", .adr l), (kS "mixed", .int s), (kS "lap", .int m)])], [], .int x, rfl, by simp, ?_⟩
    walk_at "st"
    refine if_dec (fun hx => ?_) (fun hx => ?_)
    · refine sw_drop (ev_append ?_)
      walk_at "st"
      refine ⟨l, init.map D.int, [_], [], rfl, rfl, ?_⟩
      walk_at "st"
      refine ⟨init.map D.int, [_], [], _, rfl, rfl, ?_, ?_⟩
      · simp at hl ⊢
        omega
      walk_at "st"
      have := k (x % n) (dkA a l (init ++ [x / n]) s m) (Int.emod_nonneg _ (by omega)) (Int.emod_lt_of_pos _ n0) ⟨l, init ++ [x / n], s, m, rfl, by simp at hl ⊢; omega, c0, by omega⟩
      rw [dkA, List.map_append] at this
      exact this
    · walk_at "st"
      exact k (x % n) (dkA a l init s m) (Int.emod_nonneg _ (by omega)) (Int.emod_lt_of_pos _ n0) ⟨l, init, s, m, rfl, by simp at hl ⊢; omega, c0, by omega⟩
abbrev s_law_pick : Stmt := top 17
theorem sc_law_pick : FnScope ["_law_deck_here", "_law_menu"] ["_law_deck_here", "_law_menu"] (defScope s_law_pick) := ⟨rfl, rfl, rfl, by decide +kernel, rfl, by decide +kernel, by decide +kernel⟩
theorem c_law_pick {P : Program} {w : World} {K : PySem.W.Frag} {mg : Str → Option Value} {base : Heap} {cl : Nat → Addr} {f : Addr} {fd : FuncData} (hm : mg "_law_pick" = some (.ref f)) (B : Blt mg) (Z : ZZ K w mg cl) (Fn : Fun K "_law_pick" "_law_pick" s_law_pick f fd)
    (c_law_draw : Cal P w K mg base 1 "_law_draw" (spN FK ⟨K, cl⟩ (S_draw DkA)) []) : Cal P w K mg base 2 "_law_pick" (spN FK ⟨K, cl⟩ (S_pick DkA)) [] := by
  refine calD hm Fn sc_law_pick (by intro ds W post h; first | (obtain ⟨rfl, _⟩ := h; rfl) | (obtain ⟨_, rfl, _⟩ := h; rfl) | (obtain ⟨_, _, rfl, _⟩ := h; rfl) | (obtain ⟨_, _, _, rfl, _⟩ := h; rfl) | (obtain ⟨_, _, _, _, rfl, _⟩ := h; rfl) | (obtain ⟨_, _, _, _, _, rfl, _⟩ := h; rfl) | (obtain ⟨_, _, _, _, _, _, rfl, _⟩ := h; rfl) | (obtain ⟨_, _, _, _, _, _, _, rfl, _⟩ := h; rfl) | (obtain ⟨_, _, _, _, _, _, _, _, rfl, _⟩ := h; rfl) | (obtain ⟨_, _, _, _, _, _, _, _, _, rfl, _⟩ := h; rfl) | (obtain ⟨_, _, _, _, _, _, _, _, _, _, rfl, _⟩ := h; rfl) | (obtain ⟨_, _, _, _, _, _, _, _, _, _, _, rfl, _⟩ := h; rfl)) (fun _ _ _ _ _ _ us hl => match us, hl with | [_, _], _ => rfl) fun cdv A outer s H E hr => ⟨_, pss_one (ps_ret (pe_ix ix_seq (pv 1) (pe_c c_law_draw hr (by omega) (by rfl) (pa_cons (pv 0) (pa_cons (pe_callB call_len (by rfl) B.len bt_len (pa_cons (pv 1) pa_nil)) pa_nil))) (fun _ _ => rfl))), ?_⟩
  rintro ds W post ⟨a, c, m, rfl, hd, hc, h⟩
  try dsimp only [cxOf, Cx.nox, Cx.wish]
  rcases h with ⟨l, hm, hne, hl, h⟩ | ⟨x, rfl, hne, hl, h⟩
  · have hv : Vs W m l := hm.elim (fun e => .inl (.inl (.inl e))) .inr
    walk_at "st"
    refine ca_len hv ?_
    have : 0 < l.length := List.length_pos_iff.mpr hne
    walk_at "st"
    refine handA ⟨a, c, _, rfl, hd, by omega, by omega, hc, fun z W' h0 h1 hd' => ?_⟩
    try walk_at "st"
    obtain ⟨y, hy, e⟩ := at_of_draw (l := l) h0 h1
    have hv' : Vs W' m l := hm.elim (fun e => .inl (.inl (.inl e))) .inr
    exact bo_ixSq hv' e (h y hy W' hd')
  · have h16 := sizeLine_eq
    walk_at "st"
    refine ca_lenS (by omega) ?_
    walk_at "st"
    refine handA ⟨a, c, _, rfl, hd, by omega, by omega, hc, fun z W' h0 h1 hd' => ?_⟩
    try walk_at "st"
    obtain ⟨y, hy, e⟩ := at_of_draw (l := lets x) h0 (by rw [← str_len]; exact h1)
    exact bo_ixSqS (by omega) e (h y hy W' hd')
end
section
abbrev s_law_value : Stmt := top 18
theorem sc_law_value : FnScope ["_law_deck_here", "_law_deep", "_law_k", "_law_items", "_law_menu"] ["_law_deck_here", "_law_deep"] (defScope s_law_value) := ⟨rfl, rfl, rfl, by decide +kernel, rfl, by decide +kernel, by decide +kernel⟩
theorem c_law_value {P : Program} {w : World} {K : PySem.W.Frag} {mg : Str → Option Value} {base : Heap} {cl : Nat → Addr} {f : Addr} {fd : FuncData} (hm : mg "_law_value" = some (.ref f)) (B : Blt mg) (Z : ZZ K w mg cl) (Fn : Fun K "_law_value" "_law_value" s_law_value f fd)
    (c_law_draw : Cal P w K mg base 1 "_law_draw" (spN FK ⟨K, cl⟩ (S_draw DkA)) [])
    (c_law_pick : Cal P w K mg base 2 "_law_pick" (spN FK ⟨K, cl⟩ (S_pick DkA)) []) : ∀ j, Cal P w K mg base (3 + j) "_law_value" (spN FK ⟨K, cl⟩ (S_value01 j)) [] := by
  intro j
  induction j with
  | zero => exact calD (k := 2) hm Fn sc_law_value (by intro ds W post h; first | (obtain ⟨rfl, _⟩ := h; rfl) | (obtain ⟨_, rfl, _⟩ := h; rfl) | (obtain ⟨_, _, rfl, _⟩ := h; rfl) | (obtain ⟨_, _, _, rfl, _⟩ := h; rfl) | (obtain ⟨_, _, _, _, rfl, _⟩ := h; rfl) | (obtain ⟨_, _, _, _, _, rfl, _⟩ := h; rfl) | (obtain ⟨_, _, _, _, _, _, rfl, _⟩ := h; rfl) | (obtain ⟨_, _, _, _, _, _, _, rfl, _⟩ := h; rfl) | (obtain ⟨_, _, _, _, _, _, _, _, rfl, _⟩ := h; rfl) | (obtain ⟨_, _, _, _, _, _, _, _, _, rfl, _⟩ := h; rfl) | (obtain ⟨_, _, _, _, _, _, _, _, _, _, rfl, _⟩ := h; rfl) | (obtain ⟨_, _, _, _, _, _, _, _, _, _, _, rfl, _⟩ := h; rfl)) (fun _ _ _ _ _ _ us hl => match us, hl with | [_, _], _ => rfl) fun cdv A outer s H E hr => ⟨_, pss_never, fun ds W post ⟨a, c, n, _, _, h, _⟩ => absurd h (Nat.not_lt_zero _)⟩
  | succ j c_law_value =>
    refine calD (k := 3 + j) hm Fn sc_law_value (by intro ds W post h; first | (obtain ⟨rfl, _⟩ := h; rfl) | (obtain ⟨_, rfl, _⟩ := h; rfl) | (obtain ⟨_, _, rfl, _⟩ := h; rfl) | (obtain ⟨_, _, _, rfl, _⟩ := h; rfl) | (obtain ⟨_, _, _, _, rfl, _⟩ := h; rfl) | (obtain ⟨_, _, _, _, _, rfl, _⟩ := h; rfl) | (obtain ⟨_, _, _, _, _, _, rfl, _⟩ := h; rfl) | (obtain ⟨_, _, _, _, _, _, _, rfl, _⟩ := h; rfl) | (obtain ⟨_, _, _, _, _, _, _, _, rfl, _⟩ := h; rfl) | (obtain ⟨_, _, _, _, _, _, _, _, _, rfl, _⟩ := h; rfl) | (obtain ⟨_, _, _, _, _, _, _, _, _, _, rfl, _⟩ := h; rfl) | (obtain ⟨_, _, _, _, _, _, _, _, _, _, _, rfl, _⟩ := h; rfl)) (fun _ _ _ _ _ _ us hl => match us, hl with | [_, _], _ => rfl) fun cdv A outer s H E hr => ⟨_, pss_cons (ps_if (PW.pt (pw_and (pt_cmpR op_gt (pv 1) pe_int (nomark _)) (pw_and1 (pt_cmpR op_eq (pe_c c_law_draw hr (by omega) (by rfl) (pa_cons (pv 0) (pa_cons pe_int pa_nil))) pe_int (nomark _))))) (pss_cons (ps_setLc (i := 3) (own := [("_law_k", 2)]) (by rfl) sc_law_value.nd rfl rfl (sw_true rfl rfl rfl (by decide +kernel)) (pi_range1 (by rfl) B.range (pa_cons (pe_c c_law_draw hr (by omega) (by rfl) (pa_cons (pv 0) (pa_cons pe_int pa_nil))) pa_nil)) (blkOk_by (own := [("_law_k", 2)]) (N := ["_law_deck_here", "_law_deep", "_law_k", "_law_items", "_law_menu"]) (sc := defScope s_law_value) (by decide +kernel)) (fun _ _ _ _ _ => (pg_name (i := 2) sc_law_value.nd rfl (Or.inl rfl))) (fun _ _ _ _ _ => pts_nil) (fun _ _ _ _ _ => (pe_c c_law_value hr (by omega) (by rfl) (pa_cons (pv 0) (pa_cons (pe_op op_sub (pv 1) pe_int) pa_nil)))))
 (pss_one (ps_ret (pe_c c_law_pick hr (by omega) (by rfl) (pa_cons (pv 0) (pa_cons (pe_lst (pa_cons (pe_callTy call_tuple_of (by rfl) B.tuple bt_tuple (pa_cons (pv 3) pa_nil)) (pa_cons (pv 3) (pa_cons (pe_disp (pps_cons pe_str (pv 3) pps_nil) (by rfl) (by rfl) (fun z => by cases z) (by decide)) pa_nil)))) pa_nil)))))) (pss_nil))
 (pss_cons (ps_set (i := 4) sc_law_value.nd rfl (Or.inl rfl) (pe_lst (pa_cons pe_int (pa_cons pe_int (pa_cons (pe_un un_neg pe_int) (pa_cons (pe_op op_pow pe_int pe_int) (pa_cons pe_bl (pa_cons pe_bl (pa_cons pe_non (pa_cons pe_str (pa_cons pe_str (pa_cons (pe_op op_mul_str pe_str pe_int) (pa_cons (pe_tup pa_nil) (pa_cons (pe_lst pa_nil) (pa_cons pe_dnewK (pa_cons (pe_tup (pa_cons pe_int (pa_cons pe_int pa_nil))) (pa_cons (pe_tup (pa_cons (pe_tup (pa_cons pe_str (pa_cons pe_int pa_nil))) pa_nil)) pa_nil)))))))))))))))))
 (pss_one (ps_ret (pe_c c_law_pick hr (by omega) (by rfl) (pa_cons (pv 0) (pa_cons (pv 4) pa_nil)))))), ?_⟩
    rintro ds W post ⟨a, c, n, rfl, hd, hn, hn3, hc, k⟩
    try dsimp only [cxOf, Cx.nox, Cx.wish]
    have h16 := sizeLine_eq
    have hp0 : (1 : Int) ≤ 10 ^ n := Int.le_of_lt_add_one (Int.lt_add_one_of_le (by have : (0 : Int) < 10 ^ n := Int.pow_pos (by decide); omega))
    have hp1 : (10 : Int) ^ (n + 1) = 10 * 10 ^ n := by rw [Int.pow_succ]; omega
    have hp3 : (10 : Int) ^ n ≤ 1000 := by
      match n, hn3 with
      | 0, _ => decide
      | 1, _ => decide
      | 2, _ => decide
      | 3, _ => decide
    rw [hp1] at k hc
    generalize hpe : (10 : Int) ^ n = p at *
    walk_at "st"
    refine if_dec (fun h0 => ?_) (fun h0 => ?_)
    · obtain ⟨n, rfl⟩ : ∃ q, n = q + 1 := ⟨n - 1, by omega⟩
      walk_at "st"
      refine handA ⟨a, c, 3, rfl, hd, by omega, by omega, by omega, fun z W1 z0 z1 hd1 => ?_⟩
      try walk_at "st"
      refine if_dec (fun h3 => ?_) (fun h3 => ?_)
      · refine sw_seq (sw_set (ev_lcF (ei_rng1 ?_)))
        walk_at "st"
        refine handA ⟨a, _, 4, rfl, hd1, by omega, by omega, by omega, fun y W2 y0 y1 hd2 => ?_⟩
        try walk_at "st"
        refine ⟨by omega, by omega, fun i acc W' => ∃ qs, Voks (vB n) (3 + 2 * n) acc qs ∧ acc.length = i ∧ DkA a (c + 2 + p * (i : Nat)) W', ⟨[], .n, rfl, by simpa [Int.add_assoc] using hd2⟩, ?_, ?_⟩
        · rintro i d acc W' hdd ⟨qs, hq, hl, hd3⟩
          obtain ⟨hi, rfl⟩ := rng_get hdd
          have hi : i < y.toNat := by simpa using hi
          have hpi : p * ((i : Nat) : Int) ≤ p * 2 := Int.mul_le_mul_of_nonneg_left (by omega) (by omega)
          refine tw_name (by simp) ?_
          walk_at "st"
          rw [show ((n + 1 : Nat) : Int) - 1 = ((n : Nat) : Int) by omega]
          refine handA ⟨a, _, n, rfl, hd3, by omega, by omega, by rw [hpe]; omega, fun d q W3 hv hd4 => ?_⟩
          try walk_at "st"
          rw [hpe] at hd4
          refine ⟨by omega, _, hq.app hv, by simp [hl], ?_⟩
          have e : c + 2 + p * ((i : Nat) : Int) + p = c + 2 + p * ((i + 1 : Nat) : Int) := by rw [Int.natCast_add, Int.mul_add]; omega
          rw [← e]
          exact hd4
        · rintro acc W' ⟨qs, hq, hl, hd3⟩
          rw [rng_len] at hl hd3
          have hpi : p * ((y.toNat : Nat) : Int) ≤ p * 3 := Int.mul_le_mul_of_nonneg_left (by omega) (by omega)
          walk_at "st"
          refine ca_tup (.inl (.inl rfl)) ?_
          walk_at "st"
          refine ⟨by simp, ?_⟩
          walk_at "st"
          refine handA ⟨a, _, _, rfl, hd3, by omega, .inl ⟨_, .inl rfl, by simp, by simp, fun v hv W3 hd4 => ?_⟩⟩
          try walk_at "st"
          simp only [List.mem_cons, List.not_mem_nil, or_false] at hv
          have hv3 := vB_le n
          rcases hv with rfl | rfl | rfl
          · exact k _ _ W3 ((vok_tup hq (by omega)).mono (show 3 * vB n + 20 ≤ 3 * vB n + 60 by omega) (by omega)) (DkA_mono hd4 (by omega))
          · exact k _ _ W3 ((vok_lst hq (by omega)).mono (show 3 * vB n + 20 ≤ 3 * vB n + 60 by omega) (by omega)) (DkA_mono hd4 (by omega))
          · exact k _ _ W3 ((vok_d1 (vok_lst hq (by omega))).mono (show 3 * vB n + 20 + 30 ≤ 3 * vB n + 60 by omega) (by omega)) (DkA_mono hd4 (by omega))
      · walk_at "st"
        refine bo_mulS (n := 200) (by decide) ?_
        walk_at "st"
        refine ev_fz (ev_dnew fun q hq => ⟨q, _, _, _, rfl, List.Perm.refl _, .dct _ _, ?_⟩)
        walk_at "st"
        refine handA ⟨a, _, _, rfl, hd1, by omega, .inl ⟨menu01.map (·.1), .inl rfl, by simp [menu01], by simp [menu01], fun v hv W3 hd4 => ?_⟩⟩
        try walk_at "st"
        obtain ⟨e, he, rfl⟩ := List.mem_map.mp hv
        exact k _ _ W3 ((menu_ok e he).mono (vB_le _) (by omega)) (DkA_mono hd4 (by omega))
    · walk_at "st"
      refine bo_mulS (n := 200) (by decide) ?_
      walk_at "st"
      refine ev_fz (ev_dnew fun q hq => ⟨q, _, _, _, rfl, List.Perm.refl _, .dct _ _, ?_⟩)
      walk_at "st"
      refine handA ⟨a, _, _, rfl, hd, by omega, .inl ⟨menu01.map (·.1), .inl rfl, by simp [menu01], by simp [menu01], fun v hv W3 hd4 => ?_⟩⟩
      try walk_at "st"
      obtain ⟨e, he, rfl⟩ := List.mem_map.mp hv
      exact k _ _ W3 ((menu_ok e he).mono (vB_le _) (by omega)) (DkA_mono hd4 (by omega))
end
section
abbrev s_law_made : Stmt := top 19
theorem sc_law_made : FnScope ["_law_which", "_law_thing"] ["_law_which", "_law_thing"] (defScope s_law_made) := ⟨rfl, rfl, rfl, by decide +kernel, rfl, by decide +kernel, by decide +kernel⟩
theorem c_law_made {P : Program} {w : World} {K : PySem.W.Frag} {mg : Str → Option Value} {base : Heap} {cl : Nat → Addr} {f : Addr} {fd : FuncData} (hm : mg "_law_made" = some (.ref f)) (B : Blt mg) (Z : ZZ K w mg cl) (Fn : Fun K "_law_made" "_law_made" s_law_made f fd)
    (e_BadFormula : ErrU P w K mg base 1 "BadFormula" (cl 30) "value")
    (e_BadText : ErrU P w K mg base 1 "BadText" (cl 31) "place")
    (e_BadWeb : ErrU P w K mg base 1 "BadWeb" (cl 32) "part")
    (e_BadRules : ErrU P w K mg base 1 "BadRules" (cl 33) "part")
    (e_UnknownMark : ErrU P w K mg base 1 "UnknownMark" (cl 34) "mark")
    (e_Clash : ErrU P w K mg base 1 "Clash" (cl 35) "mark")
    (e_Apart : ErrU P w K mg base 1 "Apart" (cl 36) "web")
    (e_BadBook : ErrU P w K mg base 1 "BadBook" (cl 37) "part")
    (e_UnknownPlayer : ErrU P w K mg base 1 "UnknownPlayer" (cl 38) "name")
    (e_NoPlayer : ErrU P w K mg base 1 "NoPlayer" (cl 39) "wish") : Cal P w K mg base 3 "_law_made" (spN FK ⟨K, cl⟩ (S_madeE cl)) [] := by
  refine calD hm Fn sc_law_made (by intro ds W post h; first | (obtain ⟨rfl, _⟩ := h; rfl) | (obtain ⟨_, rfl, _⟩ := h; rfl) | (obtain ⟨_, _, rfl, _⟩ := h; rfl) | (obtain ⟨_, _, _, rfl, _⟩ := h; rfl) | (obtain ⟨_, _, _, _, rfl, _⟩ := h; rfl) | (obtain ⟨_, _, _, _, _, rfl, _⟩ := h; rfl) | (obtain ⟨_, _, _, _, _, _, rfl, _⟩ := h; rfl) | (obtain ⟨_, _, _, _, _, _, _, rfl, _⟩ := h; rfl) | (obtain ⟨_, _, _, _, _, _, _, _, rfl, _⟩ := h; rfl) | (obtain ⟨_, _, _, _, _, _, _, _, _, rfl, _⟩ := h; rfl) | (obtain ⟨_, _, _, _, _, _, _, _, _, _, rfl, _⟩ := h; rfl) | (obtain ⟨_, _, _, _, _, _, _, _, _, _, _, rfl, _⟩ := h; rfl)) (fun _ _ _ _ _ _ us hl => match us, hl with | [_, _], _ => rfl) fun cdv A outer s H E hr => ⟨_, pss_cons (ps_if (pt_cmpR op_lt (pv 0) pe_int (nomark _)) (pss_one (ps_ret (pe_ix ix_list (pe_lst (pa_cons (pe_mkV (pmk_err e_BadFormula.err hr (by omega) (by rfl) (pa_cons (pv 1) pa_nil))) (pa_cons (pe_mkV (pmk_err e_BadText.err hr (by omega) (by rfl) (pa_cons (pv 1) pa_nil))) (pa_cons (pe_mkV (pmk_err e_BadWeb.err hr (by omega) (by rfl) (pa_cons (pv 1) pa_nil))) (pa_cons (pe_mkV (pmk_err e_BadRules.err hr (by omega) (by rfl) (pa_cons (pv 1) pa_nil))) pa_nil))))) (pv 0) (fun _ _ => rfl)))) (pss_nil))
 (pss_cons (ps_if (pt_cmpR op_lt (pv 0) pe_int (nomark _)) (pss_one (ps_ret (pe_ix ix_list (pe_lst (pa_cons (pe_mkV (pmk_err e_UnknownMark.err hr (by omega) (by rfl) (pa_cons (pv 1) pa_nil))) (pa_cons (pe_mkV (pmk_err e_Clash.err hr (by omega) (by rfl) (pa_cons (pv 1) pa_nil))) (pa_cons (pe_mkV (pmk_err e_Apart.err hr (by omega) (by rfl) (pa_cons (pv 1) pa_nil))) (pa_cons (pe_mkV (pmk_err e_BadBook.err hr (by omega) (by rfl) (pa_cons (pv 1) pa_nil))) pa_nil))))) (pe_op op_sub (pv 0) pe_int) (fun _ _ => rfl)))) (pss_nil))
 (pss_one (ps_ret (pe_ix ix_list (pe_lst (pa_cons (pe_mkV (pmk_err e_UnknownPlayer.err hr (by omega) (by rfl) (pa_cons (pv 1) pa_nil))) (pa_cons (pe_mkV (pmk_err e_NoPlayer.err hr (by omega) (by rfl) (pa_cons (pv 1) pa_nil))) pa_nil))) (pe_op op_sub (pv 0) pe_int) (fun _ _ => rfl))))), ?_⟩
  rintro ds W post ⟨i, z, rfl, hi, rfl, k⟩
  try dsimp only [cxOf, Cx.nox, Cx.wish]
  have h16 := sizeLine_eq
  rcases (show i = 0 ∨ i = 1 ∨ i = 2 ∨ i = 3 ∨ i = 4 ∨ i = 5 ∨ i = 6 ∨ i = 7 ∨ i = 8 ∨ i = 9 by omega) with rfl | rfl | rfl | rfl | rfl | rfl | rfl | rfl | rfl | rfl
  · walk_at "st"
    refine ev_errV (T := ⟨K, cl⟩) (ea_cons (ev_var rfl (ea_nil ⟨_, rfl, fun a0 d0 _ _ _ => ?_⟩)))
    walk_at "st"
    refine ev_errV (T := ⟨K, cl⟩) (ea_cons (ev_var rfl (ea_nil ⟨_, rfl, fun a1 d1 _ _ _ => ?_⟩)))
    walk_at "st"
    refine ev_errV (T := ⟨K, cl⟩) (ea_cons (ev_var rfl (ea_nil ⟨_, rfl, fun a2 d2 _ _ _ => ?_⟩)))
    walk_at "st"
    refine ev_errV (T := ⟨K, cl⟩) (ea_cons (ev_var rfl (ea_nil ⟨_, rfl, fun a3 d3 _ _ _ => ?_⟩)))
    walk_at "st"
    exact k a0 _ (errV_mk (c := 30) (f := "value") (d := d0) (by decide) rfl (by decide +kernel) (by simp) (by simp))
  · walk_at "st"
    refine ev_errV (T := ⟨K, cl⟩) (ea_cons (ev_var rfl (ea_nil ⟨_, rfl, fun a0 d0 _ _ _ => ?_⟩)))
    walk_at "st"
    refine ev_errV (T := ⟨K, cl⟩) (ea_cons (ev_var rfl (ea_nil ⟨_, rfl, fun a1 d1 _ _ _ => ?_⟩)))
    walk_at "st"
    refine ev_errV (T := ⟨K, cl⟩) (ea_cons (ev_var rfl (ea_nil ⟨_, rfl, fun a2 d2 _ _ _ => ?_⟩)))
    walk_at "st"
    refine ev_errV (T := ⟨K, cl⟩) (ea_cons (ev_var rfl (ea_nil ⟨_, rfl, fun a3 d3 _ _ _ => ?_⟩)))
    walk_at "st"
    exact k a1 _ (errV_mk (c := 31) (f := "place") (d := d1) (by decide) rfl (by decide +kernel) (by simp) (by simp))
  · walk_at "st"
    refine ev_errV (T := ⟨K, cl⟩) (ea_cons (ev_var rfl (ea_nil ⟨_, rfl, fun a0 d0 _ _ _ => ?_⟩)))
    walk_at "st"
    refine ev_errV (T := ⟨K, cl⟩) (ea_cons (ev_var rfl (ea_nil ⟨_, rfl, fun a1 d1 _ _ _ => ?_⟩)))
    walk_at "st"
    refine ev_errV (T := ⟨K, cl⟩) (ea_cons (ev_var rfl (ea_nil ⟨_, rfl, fun a2 d2 _ _ _ => ?_⟩)))
    walk_at "st"
    refine ev_errV (T := ⟨K, cl⟩) (ea_cons (ev_var rfl (ea_nil ⟨_, rfl, fun a3 d3 _ _ _ => ?_⟩)))
    walk_at "st"
    exact k a2 _ (errV_mk (c := 32) (f := "part") (d := d2) (by decide) rfl (by decide +kernel) (by simp) (by simp))
  · walk_at "st"
    refine ev_errV (T := ⟨K, cl⟩) (ea_cons (ev_var rfl (ea_nil ⟨_, rfl, fun a0 d0 _ _ _ => ?_⟩)))
    walk_at "st"
    refine ev_errV (T := ⟨K, cl⟩) (ea_cons (ev_var rfl (ea_nil ⟨_, rfl, fun a1 d1 _ _ _ => ?_⟩)))
    walk_at "st"
    refine ev_errV (T := ⟨K, cl⟩) (ea_cons (ev_var rfl (ea_nil ⟨_, rfl, fun a2 d2 _ _ _ => ?_⟩)))
    walk_at "st"
    refine ev_errV (T := ⟨K, cl⟩) (ea_cons (ev_var rfl (ea_nil ⟨_, rfl, fun a3 d3 _ _ _ => ?_⟩)))
    walk_at "st"
    exact k a3 _ (errV_mk (c := 33) (f := "part") (d := d3) (by decide) rfl (by decide +kernel) (by simp) (by simp))
  · walk_at "st"
    refine ev_errV (T := ⟨K, cl⟩) (ea_cons (ev_var rfl (ea_nil ⟨_, rfl, fun a0 d0 _ _ _ => ?_⟩)))
    walk_at "st"
    refine ev_errV (T := ⟨K, cl⟩) (ea_cons (ev_var rfl (ea_nil ⟨_, rfl, fun a1 d1 _ _ _ => ?_⟩)))
    walk_at "st"
    refine ev_errV (T := ⟨K, cl⟩) (ea_cons (ev_var rfl (ea_nil ⟨_, rfl, fun a2 d2 _ _ _ => ?_⟩)))
    walk_at "st"
    refine ev_errV (T := ⟨K, cl⟩) (ea_cons (ev_var rfl (ea_nil ⟨_, rfl, fun a3 d3 _ _ _ => ?_⟩)))
    walk_at "st"
    exact k a0 _ (errV_mk (c := 34) (f := "mark") (d := d0) (by decide) rfl (by decide +kernel) (by simp) (by simp))
  · walk_at "st"
    refine ev_errV (T := ⟨K, cl⟩) (ea_cons (ev_var rfl (ea_nil ⟨_, rfl, fun a0 d0 _ _ _ => ?_⟩)))
    walk_at "st"
    refine ev_errV (T := ⟨K, cl⟩) (ea_cons (ev_var rfl (ea_nil ⟨_, rfl, fun a1 d1 _ _ _ => ?_⟩)))
    walk_at "st"
    refine ev_errV (T := ⟨K, cl⟩) (ea_cons (ev_var rfl (ea_nil ⟨_, rfl, fun a2 d2 _ _ _ => ?_⟩)))
    walk_at "st"
    refine ev_errV (T := ⟨K, cl⟩) (ea_cons (ev_var rfl (ea_nil ⟨_, rfl, fun a3 d3 _ _ _ => ?_⟩)))
    walk_at "st"
    exact k a1 _ (errV_mk (c := 35) (f := "mark") (d := d1) (by decide) rfl (by decide +kernel) (by simp) (by simp))
  · walk_at "st"
    refine ev_errV (T := ⟨K, cl⟩) (ea_cons (ev_var rfl (ea_nil ⟨_, rfl, fun a0 d0 _ _ _ => ?_⟩)))
    walk_at "st"
    refine ev_errV (T := ⟨K, cl⟩) (ea_cons (ev_var rfl (ea_nil ⟨_, rfl, fun a1 d1 _ _ _ => ?_⟩)))
    walk_at "st"
    refine ev_errV (T := ⟨K, cl⟩) (ea_cons (ev_var rfl (ea_nil ⟨_, rfl, fun a2 d2 _ _ _ => ?_⟩)))
    walk_at "st"
    refine ev_errV (T := ⟨K, cl⟩) (ea_cons (ev_var rfl (ea_nil ⟨_, rfl, fun a3 d3 _ _ _ => ?_⟩)))
    walk_at "st"
    exact k a2 _ (errV_mk (c := 36) (f := "web") (d := d2) (by decide) rfl (by decide +kernel) (by simp) (by simp))
  · walk_at "st"
    refine ev_errV (T := ⟨K, cl⟩) (ea_cons (ev_var rfl (ea_nil ⟨_, rfl, fun a0 d0 _ _ _ => ?_⟩)))
    walk_at "st"
    refine ev_errV (T := ⟨K, cl⟩) (ea_cons (ev_var rfl (ea_nil ⟨_, rfl, fun a1 d1 _ _ _ => ?_⟩)))
    walk_at "st"
    refine ev_errV (T := ⟨K, cl⟩) (ea_cons (ev_var rfl (ea_nil ⟨_, rfl, fun a2 d2 _ _ _ => ?_⟩)))
    walk_at "st"
    refine ev_errV (T := ⟨K, cl⟩) (ea_cons (ev_var rfl (ea_nil ⟨_, rfl, fun a3 d3 _ _ _ => ?_⟩)))
    walk_at "st"
    exact k a3 _ (errV_mk (c := 37) (f := "part") (d := d3) (by decide) rfl (by decide +kernel) (by simp) (by simp))
  · walk_at "st"
    refine ev_errV (T := ⟨K, cl⟩) (ea_cons (ev_var rfl (ea_nil ⟨_, rfl, fun a0 d0 _ _ _ => ?_⟩)))
    walk_at "st"
    refine ev_errV (T := ⟨K, cl⟩) (ea_cons (ev_var rfl (ea_nil ⟨_, rfl, fun a1 d1 _ _ _ => ?_⟩)))
    walk_at "st"
    exact k a0 _ (errV_mk (c := 38) (f := "name") (d := d0) (by decide) rfl (by decide +kernel) (by simp) (by simp))
  · walk_at "st"
    refine ev_errV (T := ⟨K, cl⟩) (ea_cons (ev_var rfl (ea_nil ⟨_, rfl, fun a0 d0 _ _ _ => ?_⟩)))
    walk_at "st"
    refine ev_errV (T := ⟨K, cl⟩) (ea_cons (ev_var rfl (ea_nil ⟨_, rfl, fun a1 d1 _ _ _ => ?_⟩)))
    walk_at "st"
    exact k a1 _ (errV_mk (c := 39) (f := "wish") (d := d1) (by decide) rfl (by decide +kernel) (by simp) (by simp))
end
section
abbrev s_law_named : Stmt := top 20
theorem sc_law_named : FnScope ["_law_which", "_law_thing"] ["_law_which", "_law_thing"] (defScope s_law_named) := ⟨rfl, rfl, rfl, by decide +kernel, rfl, by decide +kernel, by decide +kernel⟩
theorem c_law_named {P : Program} {w : World} {K : PySem.W.Frag} {mg : Str → Option Value} {base : Heap} {cl : Nat → Addr} {f : Addr} {fd : FuncData} (hm : mg "_law_named" = some (.ref f)) (B : Blt mg) (Z : ZZ K w mg cl) (Fn : Fun K "_law_named" "_law_named" s_law_named f fd)
    (e_BadFormula : ErrU P w K mg base 1 "BadFormula" (cl 30) "value")
    (e_BadText : ErrU P w K mg base 1 "BadText" (cl 31) "place")
    (e_BadWeb : ErrU P w K mg base 1 "BadWeb" (cl 32) "part")
    (e_BadRules : ErrU P w K mg base 1 "BadRules" (cl 33) "part")
    (e_UnknownMark : ErrU P w K mg base 1 "UnknownMark" (cl 34) "mark")
    (e_Clash : ErrU P w K mg base 1 "Clash" (cl 35) "mark")
    (e_Apart : ErrU P w K mg base 1 "Apart" (cl 36) "web")
    (e_BadBook : ErrU P w K mg base 1 "BadBook" (cl 37) "part")
    (e_UnknownPlayer : ErrU P w K mg base 1 "UnknownPlayer" (cl 38) "name")
    (e_NoPlayer : ErrU P w K mg base 1 "NoPlayer" (cl 39) "wish") : Cal P w K mg base 3 "_law_named" (spN FK ⟨K, cl⟩ (S_madeE cl)) [] := by
  refine calD hm Fn sc_law_named (by intro ds W post h; first | (obtain ⟨rfl, _⟩ := h; rfl) | (obtain ⟨_, rfl, _⟩ := h; rfl) | (obtain ⟨_, _, rfl, _⟩ := h; rfl) | (obtain ⟨_, _, _, rfl, _⟩ := h; rfl) | (obtain ⟨_, _, _, _, rfl, _⟩ := h; rfl) | (obtain ⟨_, _, _, _, _, rfl, _⟩ := h; rfl) | (obtain ⟨_, _, _, _, _, _, rfl, _⟩ := h; rfl) | (obtain ⟨_, _, _, _, _, _, _, rfl, _⟩ := h; rfl) | (obtain ⟨_, _, _, _, _, _, _, _, rfl, _⟩ := h; rfl) | (obtain ⟨_, _, _, _, _, _, _, _, _, rfl, _⟩ := h; rfl) | (obtain ⟨_, _, _, _, _, _, _, _, _, _, rfl, _⟩ := h; rfl) | (obtain ⟨_, _, _, _, _, _, _, _, _, _, _, rfl, _⟩ := h; rfl)) (fun _ _ _ _ _ _ us hl => match us, hl with | [_, _], _ => rfl) fun cdv A outer s H E hr => ⟨_, pss_cons (ps_if (pt_cmpR op_lt (pv 0) pe_int (nomark _)) (pss_one (ps_ret (pe_ix ix_list (pe_lst (pa_cons (pe_mkV (pmk_errK e_BadFormula hr (by omega) (by rfl) (pk_cons (pv 1) pk_nil))) (pa_cons (pe_mkV (pmk_errK e_BadText hr (by omega) (by rfl) (pk_cons (pv 1) pk_nil))) (pa_cons (pe_mkV (pmk_errK e_BadWeb hr (by omega) (by rfl) (pk_cons (pv 1) pk_nil))) (pa_cons (pe_mkV (pmk_errK e_BadRules hr (by omega) (by rfl) (pk_cons (pv 1) pk_nil))) pa_nil))))) (pv 0) (fun _ _ => rfl)))) (pss_nil))
 (pss_cons (ps_if (pt_cmpR op_lt (pv 0) pe_int (nomark _)) (pss_one (ps_ret (pe_ix ix_list (pe_lst (pa_cons (pe_mkV (pmk_errK e_UnknownMark hr (by omega) (by rfl) (pk_cons (pv 1) pk_nil))) (pa_cons (pe_mkV (pmk_errK e_Clash hr (by omega) (by rfl) (pk_cons (pv 1) pk_nil))) (pa_cons (pe_mkV (pmk_errK e_Apart hr (by omega) (by rfl) (pk_cons (pv 1) pk_nil))) (pa_cons (pe_mkV (pmk_errK e_BadBook hr (by omega) (by rfl) (pk_cons (pv 1) pk_nil))) pa_nil))))) (pe_op op_sub (pv 0) pe_int) (fun _ _ => rfl)))) (pss_nil))
 (pss_one (ps_ret (pe_ix ix_list (pe_lst (pa_cons (pe_mkV (pmk_errK e_UnknownPlayer hr (by omega) (by rfl) (pk_cons (pv 1) pk_nil))) (pa_cons (pe_mkV (pmk_errK e_NoPlayer hr (by omega) (by rfl) (pk_cons (pv 1) pk_nil))) pa_nil))) (pe_op op_sub (pv 0) pe_int) (fun _ _ => rfl))))), ?_⟩
  rintro ds W post ⟨i, z, rfl, hi, rfl, k⟩
  try dsimp only [cxOf, Cx.nox, Cx.wish]
  have h16 := sizeLine_eq
  rcases (show i = 0 ∨ i = 1 ∨ i = 2 ∨ i = 3 ∨ i = 4 ∨ i = 5 ∨ i = 6 ∨ i = 7 ∨ i = 8 ∨ i = 9 by omega) with rfl | rfl | rfl | rfl | rfl | rfl | rfl | rfl | rfl | rfl
  · walk_at "st"
    refine ev_errV (T := ⟨K, cl⟩) (ea_cons (ev_var rfl (ea_nil ⟨_, rfl, fun a0 d0 _ _ _ => ?_⟩)))
    walk_at "st"
    refine ev_errV (T := ⟨K, cl⟩) (ea_cons (ev_var rfl (ea_nil ⟨_, rfl, fun a1 d1 _ _ _ => ?_⟩)))
    walk_at "st"
    refine ev_errV (T := ⟨K, cl⟩) (ea_cons (ev_var rfl (ea_nil ⟨_, rfl, fun a2 d2 _ _ _ => ?_⟩)))
    walk_at "st"
    refine ev_errV (T := ⟨K, cl⟩) (ea_cons (ev_var rfl (ea_nil ⟨_, rfl, fun a3 d3 _ _ _ => ?_⟩)))
    walk_at "st"
    exact k a0 _ (errV_mk (c := 30) (f := "value") (d := d0) (by decide) rfl (by decide +kernel) (by simp) (by simp))
  · walk_at "st"
    refine ev_errV (T := ⟨K, cl⟩) (ea_cons (ev_var rfl (ea_nil ⟨_, rfl, fun a0 d0 _ _ _ => ?_⟩)))
    walk_at "st"
    refine ev_errV (T := ⟨K, cl⟩) (ea_cons (ev_var rfl (ea_nil ⟨_, rfl, fun a1 d1 _ _ _ => ?_⟩)))
    walk_at "st"
    refine ev_errV (T := ⟨K, cl⟩) (ea_cons (ev_var rfl (ea_nil ⟨_, rfl, fun a2 d2 _ _ _ => ?_⟩)))
    walk_at "st"
    refine ev_errV (T := ⟨K, cl⟩) (ea_cons (ev_var rfl (ea_nil ⟨_, rfl, fun a3 d3 _ _ _ => ?_⟩)))
    walk_at "st"
    exact k a1 _ (errV_mk (c := 31) (f := "place") (d := d1) (by decide) rfl (by decide +kernel) (by simp) (by simp))
  · walk_at "st"
    refine ev_errV (T := ⟨K, cl⟩) (ea_cons (ev_var rfl (ea_nil ⟨_, rfl, fun a0 d0 _ _ _ => ?_⟩)))
    walk_at "st"
    refine ev_errV (T := ⟨K, cl⟩) (ea_cons (ev_var rfl (ea_nil ⟨_, rfl, fun a1 d1 _ _ _ => ?_⟩)))
    walk_at "st"
    refine ev_errV (T := ⟨K, cl⟩) (ea_cons (ev_var rfl (ea_nil ⟨_, rfl, fun a2 d2 _ _ _ => ?_⟩)))
    walk_at "st"
    refine ev_errV (T := ⟨K, cl⟩) (ea_cons (ev_var rfl (ea_nil ⟨_, rfl, fun a3 d3 _ _ _ => ?_⟩)))
    walk_at "st"
    exact k a2 _ (errV_mk (c := 32) (f := "part") (d := d2) (by decide) rfl (by decide +kernel) (by simp) (by simp))
  · walk_at "st"
    refine ev_errV (T := ⟨K, cl⟩) (ea_cons (ev_var rfl (ea_nil ⟨_, rfl, fun a0 d0 _ _ _ => ?_⟩)))
    walk_at "st"
    refine ev_errV (T := ⟨K, cl⟩) (ea_cons (ev_var rfl (ea_nil ⟨_, rfl, fun a1 d1 _ _ _ => ?_⟩)))
    walk_at "st"
    refine ev_errV (T := ⟨K, cl⟩) (ea_cons (ev_var rfl (ea_nil ⟨_, rfl, fun a2 d2 _ _ _ => ?_⟩)))
    walk_at "st"
    refine ev_errV (T := ⟨K, cl⟩) (ea_cons (ev_var rfl (ea_nil ⟨_, rfl, fun a3 d3 _ _ _ => ?_⟩)))
    walk_at "st"
    exact k a3 _ (errV_mk (c := 33) (f := "part") (d := d3) (by decide) rfl (by decide +kernel) (by simp) (by simp))
  · walk_at "st"
    refine ev_errV (T := ⟨K, cl⟩) (ea_cons (ev_var rfl (ea_nil ⟨_, rfl, fun a0 d0 _ _ _ => ?_⟩)))
    walk_at "st"
    refine ev_errV (T := ⟨K, cl⟩) (ea_cons (ev_var rfl (ea_nil ⟨_, rfl, fun a1 d1 _ _ _ => ?_⟩)))
    walk_at "st"
    refine ev_errV (T := ⟨K, cl⟩) (ea_cons (ev_var rfl (ea_nil ⟨_, rfl, fun a2 d2 _ _ _ => ?_⟩)))
    walk_at "st"
    refine ev_errV (T := ⟨K, cl⟩) (ea_cons (ev_var rfl (ea_nil ⟨_, rfl, fun a3 d3 _ _ _ => ?_⟩)))
    walk_at "st"
    exact k a0 _ (errV_mk (c := 34) (f := "mark") (d := d0) (by decide) rfl (by decide +kernel) (by simp) (by simp))
  · walk_at "st"
    refine ev_errV (T := ⟨K, cl⟩) (ea_cons (ev_var rfl (ea_nil ⟨_, rfl, fun a0 d0 _ _ _ => ?_⟩)))
    walk_at "st"
    refine ev_errV (T := ⟨K, cl⟩) (ea_cons (ev_var rfl (ea_nil ⟨_, rfl, fun a1 d1 _ _ _ => ?_⟩)))
    walk_at "st"
    refine ev_errV (T := ⟨K, cl⟩) (ea_cons (ev_var rfl (ea_nil ⟨_, rfl, fun a2 d2 _ _ _ => ?_⟩)))
    walk_at "st"
    refine ev_errV (T := ⟨K, cl⟩) (ea_cons (ev_var rfl (ea_nil ⟨_, rfl, fun a3 d3 _ _ _ => ?_⟩)))
    walk_at "st"
    exact k a1 _ (errV_mk (c := 35) (f := "mark") (d := d1) (by decide) rfl (by decide +kernel) (by simp) (by simp))
  · walk_at "st"
    refine ev_errV (T := ⟨K, cl⟩) (ea_cons (ev_var rfl (ea_nil ⟨_, rfl, fun a0 d0 _ _ _ => ?_⟩)))
    walk_at "st"
    refine ev_errV (T := ⟨K, cl⟩) (ea_cons (ev_var rfl (ea_nil ⟨_, rfl, fun a1 d1 _ _ _ => ?_⟩)))
    walk_at "st"
    refine ev_errV (T := ⟨K, cl⟩) (ea_cons (ev_var rfl (ea_nil ⟨_, rfl, fun a2 d2 _ _ _ => ?_⟩)))
    walk_at "st"
    refine ev_errV (T := ⟨K, cl⟩) (ea_cons (ev_var rfl (ea_nil ⟨_, rfl, fun a3 d3 _ _ _ => ?_⟩)))
    walk_at "st"
    exact k a2 _ (errV_mk (c := 36) (f := "web") (d := d2) (by decide) rfl (by decide +kernel) (by simp) (by simp))
  · walk_at "st"
    refine ev_errV (T := ⟨K, cl⟩) (ea_cons (ev_var rfl (ea_nil ⟨_, rfl, fun a0 d0 _ _ _ => ?_⟩)))
    walk_at "st"
    refine ev_errV (T := ⟨K, cl⟩) (ea_cons (ev_var rfl (ea_nil ⟨_, rfl, fun a1 d1 _ _ _ => ?_⟩)))
    walk_at "st"
    refine ev_errV (T := ⟨K, cl⟩) (ea_cons (ev_var rfl (ea_nil ⟨_, rfl, fun a2 d2 _ _ _ => ?_⟩)))
    walk_at "st"
    refine ev_errV (T := ⟨K, cl⟩) (ea_cons (ev_var rfl (ea_nil ⟨_, rfl, fun a3 d3 _ _ _ => ?_⟩)))
    walk_at "st"
    exact k a3 _ (errV_mk (c := 37) (f := "part") (d := d3) (by decide) rfl (by decide +kernel) (by simp) (by simp))
  · walk_at "st"
    refine ev_errV (T := ⟨K, cl⟩) (ea_cons (ev_var rfl (ea_nil ⟨_, rfl, fun a0 d0 _ _ _ => ?_⟩)))
    walk_at "st"
    refine ev_errV (T := ⟨K, cl⟩) (ea_cons (ev_var rfl (ea_nil ⟨_, rfl, fun a1 d1 _ _ _ => ?_⟩)))
    walk_at "st"
    exact k a0 _ (errV_mk (c := 38) (f := "name") (d := d0) (by decide) rfl (by decide +kernel) (by simp) (by simp))
  · walk_at "st"
    refine ev_errV (T := ⟨K, cl⟩) (ea_cons (ev_var rfl (ea_nil ⟨_, rfl, fun a0 d0 _ _ _ => ?_⟩)))
    walk_at "st"
    refine ev_errV (T := ⟨K, cl⟩) (ea_cons (ev_var rfl (ea_nil ⟨_, rfl, fun a1 d1 _ _ _ => ?_⟩)))
    walk_at "st"
    exact k a1 _ (errV_mk (c := 39) (f := "wish") (d := d1) (by decide) rfl (by decide +kernel) (by simp) (by simp))
end
section
abbrev s_law_told : Stmt := top 21
theorem sc_law_told : FnScope ["_law_which", "_law_error"] ["_law_which", "_law_error"] (defScope s_law_told) := ⟨rfl, rfl, rfl, by decide +kernel, rfl, by decide +kernel, by decide +kernel⟩
theorem c_law_told {P : Program} {w : World} {K : PySem.W.Frag} {mg : Str → Option Value} {base : Heap} {cl : Nat → Addr} {f : Addr} {fd : FuncData} (hm : mg "_law_told" = some (.ref f)) (B : Blt mg) (Z : ZZ K w mg cl) (Fn : Fun K "_law_told" "_law_told" s_law_told f fd) : Cal P w K mg base 1 "_law_told" (spN FK ⟨K, cl⟩ ((S_toldE cl none))) [] := by
  obtain ⟨hx, ehx⟩ : ∃ hx : Hx, hx = none := ⟨_, rfl⟩
  refine calD hm Fn sc_law_told (by intro ds W post h; first | (obtain ⟨rfl, _⟩ := h; rfl) | (obtain ⟨_, rfl, _⟩ := h; rfl) | (obtain ⟨_, _, rfl, _⟩ := h; rfl) | (obtain ⟨_, _, _, rfl, _⟩ := h; rfl) | (obtain ⟨_, _, _, _, rfl, _⟩ := h; rfl) | (obtain ⟨_, _, _, _, _, rfl, _⟩ := h; rfl) | (obtain ⟨_, _, _, _, _, _, rfl, _⟩ := h; rfl) | (obtain ⟨_, _, _, _, _, _, _, rfl, _⟩ := h; rfl) | (obtain ⟨_, _, _, _, _, _, _, _, rfl, _⟩ := h; rfl) | (obtain ⟨_, _, _, _, _, _, _, _, _, rfl, _⟩ := h; rfl) | (obtain ⟨_, _, _, _, _, _, _, _, _, _, rfl, _⟩ := h; rfl) | (obtain ⟨_, _, _, _, _, _, _, _, _, _, _, rfl, _⟩ := h; rfl)) (fun _ _ _ _ _ _ us hl => match us, hl with | [_, _], _ => rfl) fun cdv A outer s H E hr => ⟨_, pss_cons (ps_if (pt_cmpR op_lt (pv 0) pe_int (nomark _)) (pss_one (ps_ret (pe_ifExp (pt_cmpR op_eq (pv 0) pe_int (nomark _)) (pe_xU hx_none (pv 1)) (pe_xU hx_none (pv 1))))) (pss_nil))
 (pss_cons (ps_if (pt_cmpR op_in_seq (pv 0) (pe_tup (pa_cons pe_int (pa_cons pe_int (pa_cons pe_int pa_nil)))) rfl) (pss_one (ps_ret (pe_xU hx_none (pv 1)))) (pss_nil))
 (pss_cons (ps_if (pt_cmpR op_lt (pv 0) pe_int (nomark _)) (pss_one (ps_ret (pe_xU hx_none (pv 1)))) (pss_nil))
 (pss_cons (ps_if (pt_cmpR op_eq (pv 0) pe_int (nomark _)) (pss_one (ps_ret (pe_xU hx_none (pv 1)))) (pss_nil))
 (pss_one (ps_ret (pe_ifExp (pt_cmpR op_eq (pv 0) pe_int (nomark _)) (pe_xU hx_none (pv 1)) (pe_xU hx_none (pv 1)))))))), ?_⟩
  rintro ds W post ⟨b, i, z, rfl, hi, he, k⟩
  try dsimp only [cxOf, Cx.nox, Cx.wish]
  have h16 := sizeLine_eq
  obtain ⟨dd, h1, h2⟩ := he.fld hi
  rcases (show i = 0 ∨ i = 1 ∨ i = 2 ∨ i = 3 ∨ i = 4 ∨ i = 5 ∨ i = 6 ∨ i = 7 ∨ i = 8 ∨ i = 9 by omega) with rfl | rfl | rfl | rfl | rfl | rfl | rfl | rfl | rfl | rfl
  · walk_at "st"
    refine ev_xU (T := ⟨K, cl⟩) (ev_var rfl ⟨b, 30, some dd, z, rfl, Z.x30.xf, Z.x30.no, h1, h2, ?_⟩)
    walk_at "st"
    exact k
  · walk_at "st"
    refine ev_xU (T := ⟨K, cl⟩) (ev_var rfl ⟨b, 31, some dd, z, rfl, Z.x31.xf, Z.x31.no, h1, h2, ?_⟩)
    walk_at "st"
    exact k
  · walk_at "st"
    refine bo_in (neg := false) (xs := [.int 2, .int 3, .int 7]) (.inr rfl) rfl (by decide) ?_
    walk_at "st"
    refine ev_xU (T := ⟨K, cl⟩) (ev_var rfl ⟨b, 32, some dd, z, rfl, Z.x32.xf, Z.x32.no, h1, h2, ?_⟩)
    walk_at "st"
    exact k
  · walk_at "st"
    refine bo_in (neg := false) (xs := [.int 2, .int 3, .int 7]) (.inr rfl) rfl (by decide) ?_
    walk_at "st"
    refine ev_xU (T := ⟨K, cl⟩) (ev_var rfl ⟨b, 33, some dd, z, rfl, Z.x33.xf, Z.x33.no, h1, h2, ?_⟩)
    walk_at "st"
    exact k
  · walk_at "st"
    refine bo_in (neg := false) (xs := [.int 2, .int 3, .int 7]) (.inr rfl) rfl (by decide) ?_
    walk_at "st"
    refine ev_xU (T := ⟨K, cl⟩) (ev_var rfl ⟨b, 34, some dd, z, rfl, Z.x34.xf, Z.x34.no, h1, h2, ?_⟩)
    walk_at "st"
    exact k
  · walk_at "st"
    refine bo_in (neg := false) (xs := [.int 2, .int 3, .int 7]) (.inr rfl) rfl (by decide) ?_
    walk_at "st"
    refine ev_xU (T := ⟨K, cl⟩) (ev_var rfl ⟨b, 35, some dd, z, rfl, Z.x35.xf, Z.x35.no, h1, h2, ?_⟩)
    walk_at "st"
    exact k
  · walk_at "st"
    refine bo_in (neg := false) (xs := [.int 2, .int 3, .int 7]) (.inr rfl) rfl (by decide) ?_
    walk_at "st"
    refine ev_xU (T := ⟨K, cl⟩) (ev_var rfl ⟨b, 36, some dd, z, rfl, Z.x36.xf, Z.x36.no, h1, h2, ?_⟩)
    walk_at "st"
    exact k
  · walk_at "st"
    refine bo_in (neg := false) (xs := [.int 2, .int 3, .int 7]) (.inr rfl) rfl (by decide) ?_
    walk_at "st"
    refine ev_xU (T := ⟨K, cl⟩) (ev_var rfl ⟨b, 37, some dd, z, rfl, Z.x37.xf, Z.x37.no, h1, h2, ?_⟩)
    walk_at "st"
    exact k
  · walk_at "st"
    refine bo_in (neg := false) (xs := [.int 2, .int 3, .int 7]) (.inr rfl) rfl (by decide) ?_
    walk_at "st"
    refine ev_xU (T := ⟨K, cl⟩) (ev_var rfl ⟨b, 38, some dd, z, rfl, Z.x38.xf, Z.x38.no, h1, h2, ?_⟩)
    walk_at "st"
    exact k
  · walk_at "st"
    refine bo_in (neg := false) (xs := [.int 2, .int 3, .int 7]) (.inr rfl) rfl (by decide) ?_
    walk_at "st"
    refine ev_xU (T := ⟨K, cl⟩) (ev_var rfl ⟨b, 39, some dd, z, rfl, Z.x39.xf, Z.x39.no, h1, h2, ?_⟩)
    walk_at "st"
    exact k
theorem cs_law_told {P : Program} {w : World} {K : PySem.W.Frag} {mg : Str → Option Value} {base : Heap} {cl : Nat → Addr} {f : Addr} {fd : FuncData} (hm : mg "_law_told" = some (.ref f)) (B : Blt mg) (Z : ZZ K w mg cl) (Fn : Fun K "_law_told" "_law_told" s_law_told f fd) : ∀ (a : Addr) (cls : Value) (d : Option Addr), CalS P w K mg base 1 "_law_told" a cls d (spN FK ⟨K, cl⟩ ((S_toldE cl (some (a, cls, d))))) := by
  intro a cls d
  refine calS hm Fn sc_law_told (by intro ds W post h; first | (obtain ⟨rfl, _⟩ := h; rfl) | (obtain ⟨_, rfl, _⟩ := h; rfl) | (obtain ⟨_, _, rfl, _⟩ := h; rfl) | (obtain ⟨_, _, _, rfl, _⟩ := h; rfl) | (obtain ⟨_, _, _, _, rfl, _⟩ := h; rfl) | (obtain ⟨_, _, _, _, _, rfl, _⟩ := h; rfl) | (obtain ⟨_, _, _, _, _, _, rfl, _⟩ := h; rfl) | (obtain ⟨_, _, _, _, _, _, _, rfl, _⟩ := h; rfl) | (obtain ⟨_, _, _, _, _, _, _, _, rfl, _⟩ := h; rfl) | (obtain ⟨_, _, _, _, _, _, _, _, _, rfl, _⟩ := h; rfl) | (obtain ⟨_, _, _, _, _, _, _, _, _, _, rfl, _⟩ := h; rfl) | (obtain ⟨_, _, _, _, _, _, _, _, _, _, _, rfl, _⟩ := h; rfl)) (fun _ _ _ _ _ _ us hl => match us, hl with | [_, _], _ => rfl) fun cdv A outer s H E oe hh hz hf hr => ⟨_, pss_cons (ps_if (pt_cmpR op_lt (pv 0) pe_int (nomark _)) (pss_one (ps_ret (pe_ifExp (pt_cmpR op_eq (pv 0) pe_int (nomark _)) (pe_xU (hx_some List.mem_cons_self hz.zc hf) (pv 1)) (pe_xU (hx_some List.mem_cons_self hz.zc hf) (pv 1))))) (pss_nil))
 (pss_cons (ps_if (pt_cmpR op_in_seq (pv 0) (pe_tup (pa_cons pe_int (pa_cons pe_int (pa_cons pe_int pa_nil)))) rfl) (pss_one (ps_ret (pe_xU (hx_some List.mem_cons_self hz.zc hf) (pv 1)))) (pss_nil))
 (pss_cons (ps_if (pt_cmpR op_lt (pv 0) pe_int (nomark _)) (pss_one (ps_ret (pe_xU (hx_some List.mem_cons_self hz.zc hf) (pv 1)))) (pss_nil))
 (pss_cons (ps_if (pt_cmpR op_eq (pv 0) pe_int (nomark _)) (pss_one (ps_ret (pe_xU (hx_some List.mem_cons_self hz.zc hf) (pv 1)))) (pss_nil))
 (pss_one (ps_ret (pe_ifExp (pt_cmpR op_eq (pv 0) pe_int (nomark _)) (pe_xU (hx_some List.mem_cons_self hz.zc hf) (pv 1)) (pe_xU (hx_some List.mem_cons_self hz.zc hf) (pv 1)))))))), ?_⟩
  rintro ds W post ⟨b, i, z, rfl, hi, he, k⟩
  try dsimp only [cxOf, Cx.nox, Cx.wish]
  have h16 := sizeLine_eq
  obtain ⟨dd, h1, h2⟩ := he.fld hi
  rcases (show i = 0 ∨ i = 1 ∨ i = 2 ∨ i = 3 ∨ i = 4 ∨ i = 5 ∨ i = 6 ∨ i = 7 ∨ i = 8 ∨ i = 9 by omega) with rfl | rfl | rfl | rfl | rfl | rfl | rfl | rfl | rfl | rfl
  · walk_at "st"
    refine ev_xU (T := ⟨K, cl⟩) (ev_var rfl ⟨b, 30, some dd, z, rfl, Z.x30.xf, Z.x30.no, h1, h2, ?_⟩)
    walk_at "st"
    exact k
  · walk_at "st"
    refine ev_xU (T := ⟨K, cl⟩) (ev_var rfl ⟨b, 31, some dd, z, rfl, Z.x31.xf, Z.x31.no, h1, h2, ?_⟩)
    walk_at "st"
    exact k
  · walk_at "st"
    refine bo_in (neg := false) (xs := [.int 2, .int 3, .int 7]) (.inr rfl) rfl (by decide) ?_
    walk_at "st"
    refine ev_xU (T := ⟨K, cl⟩) (ev_var rfl ⟨b, 32, some dd, z, rfl, Z.x32.xf, Z.x32.no, h1, h2, ?_⟩)
    walk_at "st"
    exact k
  · walk_at "st"
    refine bo_in (neg := false) (xs := [.int 2, .int 3, .int 7]) (.inr rfl) rfl (by decide) ?_
    walk_at "st"
    refine ev_xU (T := ⟨K, cl⟩) (ev_var rfl ⟨b, 33, some dd, z, rfl, Z.x33.xf, Z.x33.no, h1, h2, ?_⟩)
    walk_at "st"
    exact k
  · walk_at "st"
    refine bo_in (neg := false) (xs := [.int 2, .int 3, .int 7]) (.inr rfl) rfl (by decide) ?_
    walk_at "st"
    refine ev_xU (T := ⟨K, cl⟩) (ev_var rfl ⟨b, 34, some dd, z, rfl, Z.x34.xf, Z.x34.no, h1, h2, ?_⟩)
    walk_at "st"
    exact k
  · walk_at "st"
    refine bo_in (neg := false) (xs := [.int 2, .int 3, .int 7]) (.inr rfl) rfl (by decide) ?_
    walk_at "st"
    refine ev_xU (T := ⟨K, cl⟩) (ev_var rfl ⟨b, 35, some dd, z, rfl, Z.x35.xf, Z.x35.no, h1, h2, ?_⟩)
    walk_at "st"
    exact k
  · walk_at "st"
    refine bo_in (neg := false) (xs := [.int 2, .int 3, .int 7]) (.inr rfl) rfl (by decide) ?_
    walk_at "st"
    refine ev_xU (T := ⟨K, cl⟩) (ev_var rfl ⟨b, 36, some dd, z, rfl, Z.x36.xf, Z.x36.no, h1, h2, ?_⟩)
    walk_at "st"
    exact k
  · walk_at "st"
    refine bo_in (neg := false) (xs := [.int 2, .int 3, .int 7]) (.inr rfl) rfl (by decide) ?_
    walk_at "st"
    refine ev_xU (T := ⟨K, cl⟩) (ev_var rfl ⟨b, 37, some dd, z, rfl, Z.x37.xf, Z.x37.no, h1, h2, ?_⟩)
    walk_at "st"
    exact k
  · walk_at "st"
    refine bo_in (neg := false) (xs := [.int 2, .int 3, .int 7]) (.inr rfl) rfl (by decide) ?_
    walk_at "st"
    refine ev_xU (T := ⟨K, cl⟩) (ev_var rfl ⟨b, 38, some dd, z, rfl, Z.x38.xf, Z.x38.no, h1, h2, ?_⟩)
    walk_at "st"
    exact k
  · walk_at "st"
    refine bo_in (neg := false) (xs := [.int 2, .int 3, .int 7]) (.inr rfl) rfl (by decide) ?_
    walk_at "st"
    refine ev_xU (T := ⟨K, cl⟩) (ev_var rfl ⟨b, 39, some dd, z, rfl, Z.x39.xf, Z.x39.no, h1, h2, ?_⟩)
    walk_at "st"
    exact k
end
section
abbrev s_law_is_of : Stmt := top 22
theorem sc_law_is_of : FnScope ["_law_error", "_law_at", "_law_mine", "_law_usual", "_law_k"] ["_law_error", "_law_at"] (defScope s_law_is_of) := ⟨rfl, rfl, rfl, by decide +kernel, rfl, by decide +kernel, by decide +kernel⟩
theorem c_law_is_of {P : Program} {w : World} {K : PySem.W.Frag} {mg : Str → Option Value} {base : Heap} {cl : Nat → Addr} {f : Addr} {fd : FuncData} (hm : mg "_law_is_of" = some (.ref f)) (B : Blt mg) (Z : ZZ K w mg cl) (Fn : Fun K "_law_is_of" "_law_is_of" s_law_is_of f fd) : Cal P w K mg base 1 "_law_is_of" (spN FK ⟨K, cl⟩ ((S_isof cl none))) [] := by
  obtain ⟨hx, ehx⟩ : ∃ hx : Hx, hx = none := ⟨_, rfl⟩
  refine calD hm Fn sc_law_is_of (by intro ds W post h; first | (obtain ⟨rfl, _⟩ := h; rfl) | (obtain ⟨_, rfl, _⟩ := h; rfl) | (obtain ⟨_, _, rfl, _⟩ := h; rfl) | (obtain ⟨_, _, _, rfl, _⟩ := h; rfl) | (obtain ⟨_, _, _, _, rfl, _⟩ := h; rfl) | (obtain ⟨_, _, _, _, _, rfl, _⟩ := h; rfl) | (obtain ⟨_, _, _, _, _, _, rfl, _⟩ := h; rfl) | (obtain ⟨_, _, _, _, _, _, _, rfl, _⟩ := h; rfl) | (obtain ⟨_, _, _, _, _, _, _, _, rfl, _⟩ := h; rfl) | (obtain ⟨_, _, _, _, _, _, _, _, _, rfl, _⟩ := h; rfl) | (obtain ⟨_, _, _, _, _, _, _, _, _, _, rfl, _⟩ := h; rfl) | (obtain ⟨_, _, _, _, _, _, _, _, _, _, _, rfl, _⟩ := h; rfl)) (fun _ _ _ _ _ _ us hl => match us, hl with | [_, _], _ => rfl) fun cdv A outer s H E hr => ⟨_, pss_cons (ps_set (i := 2) sc_law_is_of.nd rfl (Or.inl rfl) (pe_lst (pa_cons (pe_callB (call_isU hx_none) (by rfl) B.isinstance bt_isinstance (pa_cons (pv 0) (pa_cons (pe_glob (by rfl) Z.g_BadFormula (relV_ref _)) pa_nil))) (pa_cons (pe_callB (call_isU hx_none) (by rfl) B.isinstance bt_isinstance (pa_cons (pv 0) (pa_cons (pe_glob (by rfl) Z.g_BadText (relV_ref _)) pa_nil))) (pa_cons (pe_callB (call_isU hx_none) (by rfl) B.isinstance bt_isinstance (pa_cons (pv 0) (pa_cons (pe_glob (by rfl) Z.g_BadWeb (relV_ref _)) pa_nil))) pa_nil)))))
 (pss_cons (ps_set (i := 2) sc_law_is_of.nd rfl (Or.inl rfl) (pe_op op_cat (pv 2) (pe_lst (pa_cons (pe_callB (call_isU hx_none) (by rfl) B.isinstance bt_isinstance (pa_cons (pv 0) (pa_cons (pe_glob (by rfl) Z.g_BadRules (relV_ref _)) pa_nil))) (pa_cons (pe_callB (call_isU hx_none) (by rfl) B.isinstance bt_isinstance (pa_cons (pv 0) (pa_cons (pe_glob (by rfl) Z.g_UnknownMark (relV_ref _)) pa_nil))) (pa_cons (pe_callB (call_isU hx_none) (by rfl) B.isinstance bt_isinstance (pa_cons (pv 0) (pa_cons (pe_glob (by rfl) Z.g_Clash (relV_ref _)) pa_nil))) pa_nil))))))
 (pss_cons (ps_set (i := 2) sc_law_is_of.nd rfl (Or.inl rfl) (pe_op op_cat (pv 2) (pe_lst (pa_cons (pe_callB (call_isU hx_none) (by rfl) B.isinstance bt_isinstance (pa_cons (pv 0) (pa_cons (pe_glob (by rfl) Z.g_Apart (relV_ref _)) pa_nil))) (pa_cons (pe_callB (call_isU hx_none) (by rfl) B.isinstance bt_isinstance (pa_cons (pv 0) (pa_cons (pe_glob (by rfl) Z.g_BadBook (relV_ref _)) pa_nil))) (pa_cons (pe_callB (call_isU hx_none) (by rfl) B.isinstance bt_isinstance (pa_cons (pv 0) (pa_cons (pe_glob (by rfl) Z.g_UnknownPlayer (relV_ref _)) pa_nil))) pa_nil))))))
 (pss_cons (ps_set (i := 2) sc_law_is_of.nd rfl (Or.inl rfl) (pe_op op_cat (pv 2) (pe_lst (pa_cons (pe_callB (call_isU hx_none) (by rfl) B.isinstance bt_isinstance (pa_cons (pv 0) (pa_cons (pe_glob (by rfl) Z.g_NoPlayer (relV_ref _)) pa_nil))) (pa_cons (pe_callB (call_isU hx_none) (by rfl) B.isinstance bt_isinstance (pa_cons (pv 0) (pa_cons (pe_glob (by rfl) Z.g_NothingToUndo (relV_ref _)) pa_nil))) (pa_cons (pe_callB (call_isU hx_none) (by rfl) B.isinstance bt_isinstance (pa_cons (pv 0) (pa_cons (pe_glob (by rfl) Z.g_NothingToRedo (relV_ref _)) pa_nil))) pa_nil))))))
 (pss_cons (ps_set (i := 3) sc_law_is_of.nd rfl (Or.inl rfl) (pe_lst (pa_cons (pe_callB (call_isU hx_none) (by rfl) B.isinstance bt_isinstance (pa_cons (pv 0) (pa_cons (pe_bltn (by rfl) Z.no_ValueError (show bootBuiltins "ValueError" = some (.type "ValueError") by decide +kernel) (relV_ty _)) pa_nil))) (pa_cons (pe_callB (call_isU hx_none) (by rfl) B.isinstance bt_isinstance (pa_cons (pv 0) (pa_cons (pe_bltn (by rfl) Z.no_LookupError (show bootBuiltins "LookupError" = some (.type "LookupError") by decide +kernel) (relV_ty _)) pa_nil))) (pa_cons (pe_callB (call_isU hx_none) (by rfl) B.isinstance bt_isinstance (pa_cons (pv 0) (pa_cons (pe_bltn (by rfl) Z.no_TypeError (show bootBuiltins "TypeError" = some (.type "TypeError") by decide +kernel) (relV_ty _)) pa_nil))) pa_nil)))))
 (pss_cons (ps_set (i := 3) sc_law_is_of.nd rfl (Or.inl rfl) (pe_op op_cat (pv 3) (pe_lst (pa_cons (pe_callB (call_isU hx_none) (by rfl) B.isinstance bt_isinstance (pa_cons (pv 0) (pa_cons (pe_bltn (by rfl) Z.no_ArithmeticError (show bootBuiltins "ArithmeticError" = some (.type "ArithmeticError") by decide +kernel) (relV_ty _)) pa_nil))) (pa_cons (pe_callB (call_isU hx_none) (by rfl) B.isinstance bt_isinstance (pa_cons (pv 0) (pa_cons (pe_bltn (by rfl) Z.no_RuntimeError (show bootBuiltins "RuntimeError" = some (.type "RuntimeError") by decide +kernel) (relV_ty _)) pa_nil))) pa_nil)))))
 (pss_one (ps_ret (pe_and (pe_cmpR (op_eqD hr.units) (pv 2) (pe_lc (own := [("_law_k", 4)]) (by rfl) sc_law_is_of.nd (pi_range1 (by rfl) B.range (pa_cons pe_int pa_nil)) (blkOk_by (own := [("_law_k", 4)]) (N := ["_law_error", "_law_at", "_law_mine", "_law_usual", "_law_k"]) (sc := defScope s_law_is_of) (by decide +kernel)) (fun _ _ _ _ _ => (pg_name (i := 4) sc_law_is_of.nd rfl (Or.inl rfl))) (fun _ _ _ _ _ => pts_nil) (fun _ _ _ _ _ => (pe_cmpR op_eq (pv 4) (pv 1) (nomark _)))) (nomark _)) (pe_and (pe_cmpR op_notIn_seq pe_bl (pv 3) rfl) (pe_one (pe_callB (call_isU hx_none) (by rfl) B.isinstance bt_isinstance (pa_cons (pv 0) (pa_cons (pe_glob (by rfl) Z.g_WebError (relV_ref _)) pa_nil))))))))))))), ?_⟩
  rintro ds W post ⟨b, i, j, z, rfl, hi, hj, he, k⟩
  try dsimp only [cxOf, Cx.nox, Cx.wish]
  have h16 := sizeLine_eq
  obtain ⟨dd, fs, h1, h2⟩ := he.any
  have ecs : ExcC K (cl (ec i)) := by
    match i, hi with
    | 0, _ => exact Z.ec30
    | 1, _ => exact Z.ec31
    | 2, _ => exact Z.ec32
    | 3, _ => exact Z.ec33
    | 4, _ => exact Z.ec34
    | 5, _ => exact Z.ec35
    | 6, _ => exact Z.ec36
    | 7, _ => exact Z.ec37
    | 8, _ => exact Z.ec38
    | 9, _ => exact Z.ec39
    | 10, _ => exact Z.ec100
    | 11, _ => exact Z.ec101
  have ka : ∀ q : Nat, q < 12 → PySem.W.kitOne K (.ref (cl (ec i))) (.ref (cl (ec q))) = some (decide (i = q)) := fun q hq => kit_all (cl := cl) Z.kit12 hi hq
  have kf : ∀ t ∈ five01, PySem.W.kitOne K (.ref (cl (ec i))) (.type t) = some false := fun t ht => kit_five (cl := cl) Z.kit5 hi ht
  have kw := (exm_all (cl := cl) Z.exm12 hi).2
  have rr : ∀ (x : Addr) (u : Value), RelV (.ref x) u → u = .ref x := fun x u h => h
  have rt : ∀ (x : String) (u : Value), RelV (.ty x) u → u = .type x := fun x u h => h
  walk_at "st"
  refine ca_isU (T := ⟨K, cl⟩) ecs (rr _) (ka 0 (by decide)) h1 h2 ?_
  walk_at "st"
  refine ca_isU (T := ⟨K, cl⟩) ecs (rr _) (ka 1 (by decide)) h1 h2 ?_
  walk_at "st"
  refine ca_isU (T := ⟨K, cl⟩) ecs (rr _) (ka 2 (by decide)) h1 h2 ?_
  walk_at "st"
  refine ca_isU (T := ⟨K, cl⟩) ecs (rr _) (ka 3 (by decide)) h1 h2 ?_
  walk_at "st"
  refine ca_isU (T := ⟨K, cl⟩) ecs (rr _) (ka 4 (by decide)) h1 h2 ?_
  walk_at "st"
  refine ca_isU (T := ⟨K, cl⟩) ecs (rr _) (ka 5 (by decide)) h1 h2 ?_
  walk_at "st"
  refine bo_cat (.inl rfl) (.inl rfl) (by show 6 ≤ _; omega) ?_
  walk_at "st"
  refine ca_isU (T := ⟨K, cl⟩) ecs (rr _) (ka 6 (by decide)) h1 h2 ?_
  walk_at "st"
  refine ca_isU (T := ⟨K, cl⟩) ecs (rr _) (ka 7 (by decide)) h1 h2 ?_
  walk_at "st"
  refine ca_isU (T := ⟨K, cl⟩) ecs (rr _) (ka 8 (by decide)) h1 h2 ?_
  walk_at "st"
  refine bo_cat (.inl rfl) (.inl rfl) (by show 9 ≤ _; omega) ?_
  walk_at "st"
  refine ca_isU (T := ⟨K, cl⟩) ecs (rr _) (ka 9 (by decide)) h1 h2 ?_
  walk_at "st"
  refine ca_isU (T := ⟨K, cl⟩) ecs (rr _) (ka 10 (by decide)) h1 h2 ?_
  walk_at "st"
  refine ca_isU (T := ⟨K, cl⟩) ecs (rr _) (ka 11 (by decide)) h1 h2 ?_
  walk_at "st"
  refine bo_cat (.inl rfl) (.inl rfl) (by show 12 ≤ _; omega) ?_
  walk_at "st"
  refine ca_isU (T := ⟨K, cl⟩) ecs (rt "ValueError") (kf "ValueError" (by decide)) h1 h2 ?_
  walk_at "st"
  refine ca_isU (T := ⟨K, cl⟩) ecs (rt "LookupError") (kf "LookupError" (by decide)) h1 h2 ?_
  walk_at "st"
  refine ca_isU (T := ⟨K, cl⟩) ecs (rt "TypeError") (kf "TypeError" (by decide)) h1 h2 ?_
  walk_at "st"
  refine ca_isU (T := ⟨K, cl⟩) ecs (rt "ArithmeticError") (kf "ArithmeticError" (by decide)) h1 h2 ?_
  walk_at "st"
  refine ca_isU (T := ⟨K, cl⟩) ecs (rt "RuntimeError") (kf "RuntimeError" (by decide)) h1 h2 ?_
  walk_at "st"
  refine bo_cat (.inl rfl) (.inl rfl) (by show 5 ≤ _; omega) ?_
  walk_at "st"
  refine ev_lcM (ei_rng1 ?_)
  walk_at "st"
  refine ⟨by omega, by omega, (List.range 12).map fun k => D.bl (decide (k = j)), fun i d e hd4 he => ?_, by rw [rng_len]; rfl, Nat.le_of_ble_eq_true rfl, ?_⟩
  · obtain ⟨hi, rfl⟩ := rng_get hd4
    rw [List.getElem?_map] at he
    obtain ⟨q, hq, rfl⟩ := Option.map_eq_some_iff.mp he
    have hi : i < 12 := by simpa using hi
    rw [List.getElem?_range hi] at hq
    obtain rfl := Option.some.inj hq
    refine tw_name (by simp) ?_
    walk_at "st"
    refine ⟨rfl, ?_⟩
    walk_at "st"
    refine ⟨?_, rfl⟩
    exact congrArg D.bl (by rw [Bool.eq_iff_iff, decide_eq_true_eq, decide_eq_true_eq]; omega)
  refine bo_row hi hj ?_
  refine ⟨_, rfl, if_dec (fun h => ?_) (fun h => ?_)⟩
  · walk_at "st"
    refine bo_in (neg := true) (xs := [.bl false, .bl false, .bl false, .bl false, .bl false]) (.inl (.inl (.inl rfl))) rfl (by decide) ?_
    refine ⟨_, rfl, if_so (by decide) ?_⟩
    walk_at "st"
    refine ca_isU (T := ⟨K, cl⟩) ecs (rr _) kw h1 h2 ?_
    have k : post (.bl (decide (i = j))) W := k
    rw [decide_eq_true h] at k
    exact k
  · have k : post (.bl (decide (i = j))) W := k
    rw [decide_eq_false h] at k
    exact k
theorem cs_law_is_of {P : Program} {w : World} {K : PySem.W.Frag} {mg : Str → Option Value} {base : Heap} {cl : Nat → Addr} {f : Addr} {fd : FuncData} (hm : mg "_law_is_of" = some (.ref f)) (B : Blt mg) (Z : ZZ K w mg cl) (Fn : Fun K "_law_is_of" "_law_is_of" s_law_is_of f fd) : ∀ (a : Addr) (cls : Value) (d : Option Addr), CalS P w K mg base 1 "_law_is_of" a cls d (spN FK ⟨K, cl⟩ ((S_isof cl (some (a, cls, d))))) := by
  intro a cls d
  refine calS hm Fn sc_law_is_of (by intro ds W post h; first | (obtain ⟨rfl, _⟩ := h; rfl) | (obtain ⟨_, rfl, _⟩ := h; rfl) | (obtain ⟨_, _, rfl, _⟩ := h; rfl) | (obtain ⟨_, _, _, rfl, _⟩ := h; rfl) | (obtain ⟨_, _, _, _, rfl, _⟩ := h; rfl) | (obtain ⟨_, _, _, _, _, rfl, _⟩ := h; rfl) | (obtain ⟨_, _, _, _, _, _, rfl, _⟩ := h; rfl) | (obtain ⟨_, _, _, _, _, _, _, rfl, _⟩ := h; rfl) | (obtain ⟨_, _, _, _, _, _, _, _, rfl, _⟩ := h; rfl) | (obtain ⟨_, _, _, _, _, _, _, _, _, rfl, _⟩ := h; rfl) | (obtain ⟨_, _, _, _, _, _, _, _, _, _, rfl, _⟩ := h; rfl) | (obtain ⟨_, _, _, _, _, _, _, _, _, _, _, rfl, _⟩ := h; rfl)) (fun _ _ _ _ _ _ us hl => match us, hl with | [_, _], _ => rfl) fun cdv A outer s H E oe hh hz hf hr => ⟨_, pss_cons (ps_set (i := 2) sc_law_is_of.nd rfl (Or.inl rfl) (pe_lst (pa_cons (pe_callB (call_isU (hx_some List.mem_cons_self hz.zc hf)) (by rfl) B.isinstance bt_isinstance (pa_cons (pv 0) (pa_cons (pe_glob (by rfl) Z.g_BadFormula (relV_ref _)) pa_nil))) (pa_cons (pe_callB (call_isU (hx_some List.mem_cons_self hz.zc hf)) (by rfl) B.isinstance bt_isinstance (pa_cons (pv 0) (pa_cons (pe_glob (by rfl) Z.g_BadText (relV_ref _)) pa_nil))) (pa_cons (pe_callB (call_isU (hx_some List.mem_cons_self hz.zc hf)) (by rfl) B.isinstance bt_isinstance (pa_cons (pv 0) (pa_cons (pe_glob (by rfl) Z.g_BadWeb (relV_ref _)) pa_nil))) pa_nil)))))
 (pss_cons (ps_set (i := 2) sc_law_is_of.nd rfl (Or.inl rfl) (pe_op op_cat (pv 2) (pe_lst (pa_cons (pe_callB (call_isU (hx_some List.mem_cons_self hz.zc hf)) (by rfl) B.isinstance bt_isinstance (pa_cons (pv 0) (pa_cons (pe_glob (by rfl) Z.g_BadRules (relV_ref _)) pa_nil))) (pa_cons (pe_callB (call_isU (hx_some List.mem_cons_self hz.zc hf)) (by rfl) B.isinstance bt_isinstance (pa_cons (pv 0) (pa_cons (pe_glob (by rfl) Z.g_UnknownMark (relV_ref _)) pa_nil))) (pa_cons (pe_callB (call_isU (hx_some List.mem_cons_self hz.zc hf)) (by rfl) B.isinstance bt_isinstance (pa_cons (pv 0) (pa_cons (pe_glob (by rfl) Z.g_Clash (relV_ref _)) pa_nil))) pa_nil))))))
 (pss_cons (ps_set (i := 2) sc_law_is_of.nd rfl (Or.inl rfl) (pe_op op_cat (pv 2) (pe_lst (pa_cons (pe_callB (call_isU (hx_some List.mem_cons_self hz.zc hf)) (by rfl) B.isinstance bt_isinstance (pa_cons (pv 0) (pa_cons (pe_glob (by rfl) Z.g_Apart (relV_ref _)) pa_nil))) (pa_cons (pe_callB (call_isU (hx_some List.mem_cons_self hz.zc hf)) (by rfl) B.isinstance bt_isinstance (pa_cons (pv 0) (pa_cons (pe_glob (by rfl) Z.g_BadBook (relV_ref _)) pa_nil))) (pa_cons (pe_callB (call_isU (hx_some List.mem_cons_self hz.zc hf)) (by rfl) B.isinstance bt_isinstance (pa_cons (pv 0) (pa_cons (pe_glob (by rfl) Z.g_UnknownPlayer (relV_ref _)) pa_nil))) pa_nil))))))
 (pss_cons (ps_set (i := 2) sc_law_is_of.nd rfl (Or.inl rfl) (pe_op op_cat (pv 2) (pe_lst (pa_cons (pe_callB (call_isU (hx_some List.mem_cons_self hz.zc hf)) (by rfl) B.isinstance bt_isinstance (pa_cons (pv 0) (pa_cons (pe_glob (by rfl) Z.g_NoPlayer (relV_ref _)) pa_nil))) (pa_cons (pe_callB (call_isU (hx_some List.mem_cons_self hz.zc hf)) (by rfl) B.isinstance bt_isinstance (pa_cons (pv 0) (pa_cons (pe_glob (by rfl) Z.g_NothingToUndo (relV_ref _)) pa_nil))) (pa_cons (pe_callB (call_isU (hx_some List.mem_cons_self hz.zc hf)) (by rfl) B.isinstance bt_isinstance (pa_cons (pv 0) (pa_cons (pe_glob (by rfl) Z.g_NothingToRedo (relV_ref _)) pa_nil))) pa_nil))))))
 (pss_cons (ps_set (i := 3) sc_law_is_of.nd rfl (Or.inl rfl) (pe_lst (pa_cons (pe_callB (call_isU (hx_some List.mem_cons_self hz.zc hf)) (by rfl) B.isinstance bt_isinstance (pa_cons (pv 0) (pa_cons (pe_bltn (by rfl) Z.no_ValueError (show bootBuiltins "ValueError" = some (.type "ValueError") by decide +kernel) (relV_ty _)) pa_nil))) (pa_cons (pe_callB (call_isU (hx_some List.mem_cons_self hz.zc hf)) (by rfl) B.isinstance bt_isinstance (pa_cons (pv 0) (pa_cons (pe_bltn (by rfl) Z.no_LookupError (show bootBuiltins "LookupError" = some (.type "LookupError") by decide +kernel) (relV_ty _)) pa_nil))) (pa_cons (pe_callB (call_isU (hx_some List.mem_cons_self hz.zc hf)) (by rfl) B.isinstance bt_isinstance (pa_cons (pv 0) (pa_cons (pe_bltn (by rfl) Z.no_TypeError (show bootBuiltins "TypeError" = some (.type "TypeError") by decide +kernel) (relV_ty _)) pa_nil))) pa_nil)))))
 (pss_cons (ps_set (i := 3) sc_law_is_of.nd rfl (Or.inl rfl) (pe_op op_cat (pv 3) (pe_lst (pa_cons (pe_callB (call_isU (hx_some List.mem_cons_self hz.zc hf)) (by rfl) B.isinstance bt_isinstance (pa_cons (pv 0) (pa_cons (pe_bltn (by rfl) Z.no_ArithmeticError (show bootBuiltins "ArithmeticError" = some (.type "ArithmeticError") by decide +kernel) (relV_ty _)) pa_nil))) (pa_cons (pe_callB (call_isU (hx_some List.mem_cons_self hz.zc hf)) (by rfl) B.isinstance bt_isinstance (pa_cons (pv 0) (pa_cons (pe_bltn (by rfl) Z.no_RuntimeError (show bootBuiltins "RuntimeError" = some (.type "RuntimeError") by decide +kernel) (relV_ty _)) pa_nil))) pa_nil)))))
 (pss_one (ps_ret (pe_and (pe_cmpR (op_eqD (roomH_units hr)) (pv 2) (pe_lcA (own := [("_law_k", 4)]) (hotC_of List.mem_cons_self hh hz hf) sc_law_is_of.nd (pi_range1A (by rfl) B.range (pa_cons pe_int pa_nil)) (blkOk_by (own := [("_law_k", 4)]) (N := ["_law_error", "_law_at", "_law_mine", "_law_usual", "_law_k"]) (sc := defScope s_law_is_of) (by decide +kernel)) (fun _ _ _ _ _ => (pg_name (i := 4) sc_law_is_of.nd rfl (Or.inl rfl))) (fun _ _ _ _ _ => pts_nil) (fun _ _ _ _ _ => (pe_cmpR op_eq (pv 4) (pv 1) (nomark _)))) (nomark _)) (pe_and (pe_cmpR op_notIn_seq pe_bl (pv 3) rfl) (pe_one (pe_callB (call_isU (hx_some List.mem_cons_self hz.zc hf)) (by rfl) B.isinstance bt_isinstance (pa_cons (pv 0) (pa_cons (pe_glob (by rfl) Z.g_WebError (relV_ref _)) pa_nil))))))))))))), ?_⟩
  rintro ds W post ⟨b, i, j, z, rfl, hi, hj, he, k⟩
  try dsimp only [cxOf, Cx.nox, Cx.wish]
  have h16 := sizeLine_eq
  obtain ⟨dd, fs, h1, h2⟩ := he.any
  have ecs : ExcC K (cl (ec i)) := by
    match i, hi with
    | 0, _ => exact Z.ec30
    | 1, _ => exact Z.ec31
    | 2, _ => exact Z.ec32
    | 3, _ => exact Z.ec33
    | 4, _ => exact Z.ec34
    | 5, _ => exact Z.ec35
    | 6, _ => exact Z.ec36
    | 7, _ => exact Z.ec37
    | 8, _ => exact Z.ec38
    | 9, _ => exact Z.ec39
    | 10, _ => exact Z.ec100
    | 11, _ => exact Z.ec101
  have ka : ∀ q : Nat, q < 12 → PySem.W.kitOne K (.ref (cl (ec i))) (.ref (cl (ec q))) = some (decide (i = q)) := fun q hq => kit_all (cl := cl) Z.kit12 hi hq
  have kf : ∀ t ∈ five01, PySem.W.kitOne K (.ref (cl (ec i))) (.type t) = some false := fun t ht => kit_five (cl := cl) Z.kit5 hi ht
  have kw := (exm_all (cl := cl) Z.exm12 hi).2
  have rr : ∀ (x : Addr) (u : Value), RelV (.ref x) u → u = .ref x := fun x u h => h
  have rt : ∀ (x : String) (u : Value), RelV (.ty x) u → u = .type x := fun x u h => h
  walk_at "st"
  refine ca_isU (T := ⟨K, cl⟩) ecs (rr _) (ka 0 (by decide)) h1 h2 ?_
  walk_at "st"
  refine ca_isU (T := ⟨K, cl⟩) ecs (rr _) (ka 1 (by decide)) h1 h2 ?_
  walk_at "st"
  refine ca_isU (T := ⟨K, cl⟩) ecs (rr _) (ka 2 (by decide)) h1 h2 ?_
  walk_at "st"
  refine ca_isU (T := ⟨K, cl⟩) ecs (rr _) (ka 3 (by decide)) h1 h2 ?_
  walk_at "st"
  refine ca_isU (T := ⟨K, cl⟩) ecs (rr _) (ka 4 (by decide)) h1 h2 ?_
  walk_at "st"
  refine ca_isU (T := ⟨K, cl⟩) ecs (rr _) (ka 5 (by decide)) h1 h2 ?_
  walk_at "st"
  refine bo_cat (.inl rfl) (.inl rfl) (by show 6 ≤ _; omega) ?_
  walk_at "st"
  refine ca_isU (T := ⟨K, cl⟩) ecs (rr _) (ka 6 (by decide)) h1 h2 ?_
  walk_at "st"
  refine ca_isU (T := ⟨K, cl⟩) ecs (rr _) (ka 7 (by decide)) h1 h2 ?_
  walk_at "st"
  refine ca_isU (T := ⟨K, cl⟩) ecs (rr _) (ka 8 (by decide)) h1 h2 ?_
  walk_at "st"
  refine bo_cat (.inl rfl) (.inl rfl) (by show 9 ≤ _; omega) ?_
  walk_at "st"
  refine ca_isU (T := ⟨K, cl⟩) ecs (rr _) (ka 9 (by decide)) h1 h2 ?_
  walk_at "st"
  refine ca_isU (T := ⟨K, cl⟩) ecs (rr _) (ka 10 (by decide)) h1 h2 ?_
  walk_at "st"
  refine ca_isU (T := ⟨K, cl⟩) ecs (rr _) (ka 11 (by decide)) h1 h2 ?_
  walk_at "st"
  refine bo_cat (.inl rfl) (.inl rfl) (by show 12 ≤ _; omega) ?_
  walk_at "st"
  refine ca_isU (T := ⟨K, cl⟩) ecs (rt "ValueError") (kf "ValueError" (by decide)) h1 h2 ?_
  walk_at "st"
  refine ca_isU (T := ⟨K, cl⟩) ecs (rt "LookupError") (kf "LookupError" (by decide)) h1 h2 ?_
  walk_at "st"
  refine ca_isU (T := ⟨K, cl⟩) ecs (rt "TypeError") (kf "TypeError" (by decide)) h1 h2 ?_
  walk_at "st"
  refine ca_isU (T := ⟨K, cl⟩) ecs (rt "ArithmeticError") (kf "ArithmeticError" (by decide)) h1 h2 ?_
  walk_at "st"
  refine ca_isU (T := ⟨K, cl⟩) ecs (rt "RuntimeError") (kf "RuntimeError" (by decide)) h1 h2 ?_
  walk_at "st"
  refine bo_cat (.inl rfl) (.inl rfl) (by show 5 ≤ _; omega) ?_
  walk_at "st"
  refine ev_lcM (ei_rng1 ?_)
  walk_at "st"
  refine ⟨by omega, by omega, (List.range 12).map fun k => D.bl (decide (k = j)), fun i d e hd4 he => ?_, by rw [rng_len]; rfl, Nat.le_of_ble_eq_true rfl, ?_⟩
  · obtain ⟨hi, rfl⟩ := rng_get hd4
    rw [List.getElem?_map] at he
    obtain ⟨q, hq, rfl⟩ := Option.map_eq_some_iff.mp he
    have hi : i < 12 := by simpa using hi
    rw [List.getElem?_range hi] at hq
    obtain rfl := Option.some.inj hq
    refine tw_name (by simp) ?_
    walk_at "st"
    refine ⟨rfl, ?_⟩
    walk_at "st"
    refine ⟨?_, rfl⟩
    exact congrArg D.bl (by rw [Bool.eq_iff_iff, decide_eq_true_eq, decide_eq_true_eq]; omega)
  refine bo_row hi hj ?_
  refine ⟨_, rfl, if_dec (fun h => ?_) (fun h => ?_)⟩
  · walk_at "st"
    refine bo_in (neg := true) (xs := [.bl false, .bl false, .bl false, .bl false, .bl false]) (.inl (.inl (.inl rfl))) rfl (by decide) ?_
    refine ⟨_, rfl, if_so (by decide) ?_⟩
    walk_at "st"
    refine ca_isU (T := ⟨K, cl⟩) ecs (rr _) kw h1 h2 ?_
    have k : post (.bl (decide (i = j))) W := k
    rw [decide_eq_true h] at k
    exact k
  · have k : post (.bl (decide (i = j))) W := k
    rw [decide_eq_false h] at k
    exact k
end
section
abbrev s_law_raised : Stmt := top 23
theorem sc_law_raised : FnScope ["_law_which", "_law_thing"] ["_law_which", "_law_thing"] (defScope s_law_raised) := ⟨rfl, rfl, rfl, by decide +kernel, rfl, by decide +kernel, by decide +kernel⟩
theorem c_law_raised {P : Program} {w : World} {K : PySem.W.Frag} {mg : Str → Option Value} {base : Heap} {cl : Nat → Addr} {f : Addr} {fd : FuncData} (hm : mg "_law_raised" = some (.ref f)) (B : Blt mg) (Z : ZZ K w mg cl) (Fn : Fun K "_law_raised" "_law_raised" s_law_raised f fd)
    (e_BadFormula : ErrU P w K mg base 1 "BadFormula" (cl 30) "value")
    (e_BadText : ErrU P w K mg base 1 "BadText" (cl 31) "place")
    (e_BadWeb : ErrU P w K mg base 1 "BadWeb" (cl 32) "part")
    (e_BadRules : ErrU P w K mg base 1 "BadRules" (cl 33) "part")
    (e_UnknownMark : ErrU P w K mg base 1 "UnknownMark" (cl 34) "mark")
    (e_Clash : ErrU P w K mg base 1 "Clash" (cl 35) "mark") : CalXN P w K mg base 3 "_law_raised" (spX FK ⟨K, cl⟩ (S_raised1)) := by
  refine calXND hm Fn sc_law_raised (by intro ds W post ex h; first | (obtain ⟨rfl, _⟩ := h; rfl) | (obtain ⟨_, rfl, _⟩ := h; rfl) | (obtain ⟨_, _, rfl, _⟩ := h; rfl) | (obtain ⟨_, _, _, rfl, _⟩ := h; rfl) | (obtain ⟨_, _, _, _, rfl, _⟩ := h; rfl) | (obtain ⟨_, _, _, _, _, rfl, _⟩ := h; rfl) | (obtain ⟨_, _, _, _, _, _, rfl, _⟩ := h; rfl) | (obtain ⟨_, _, _, _, _, _, _, rfl, _⟩ := h; rfl) | (obtain ⟨_, _, _, _, _, _, _, _, rfl, _⟩ := h; rfl) | (obtain ⟨_, _, _, _, _, _, _, _, _, rfl, _⟩ := h; rfl) | (obtain ⟨_, _, _, _, _, _, _, _, _, _, rfl, _⟩ := h; rfl) | (obtain ⟨_, _, _, _, _, _, _, _, _, _, _, rfl, _⟩ := h; rfl)) (fun _ _ _ _ _ _ us hl => match us, hl with | [_, _], _ => rfl)  fun cdv A outer s H E hr => ⟨_, pss_cons (ps_if (pt_cmpR op_eq (pv 0) pe_int (nomark _)) (pss_one (L2N.ps_raise rfl (L2N.takes_of rfl rfl rfl rfl) (pmk_errN e_BadFormula hr (by omega) (by rfl) (pa_cons (pv 1) pa_nil)))) (pss_nil))
 (pss_cons (ps_if (pt_cmpR op_eq (pv 0) pe_int (nomark _)) (pss_one (L2N.ps_raise rfl (L2N.takes_of rfl rfl rfl rfl) (pmk_errN e_BadText hr (by omega) (by rfl) (pa_cons (pv 1) pa_nil)))) (pss_nil))
 (pss_cons (ps_if (pt_cmpR op_eq (pv 0) pe_int (nomark _)) (pss_one (L2N.ps_raise rfl (L2N.takes_of rfl rfl rfl rfl) (pmk_errN e_BadWeb hr (by omega) (by rfl) (pa_cons (pv 1) pa_nil)))) (pss_nil))
 (pss_cons (ps_if (pt_cmpR op_eq (pv 0) pe_int (nomark _)) (pss_one (L2N.ps_raise rfl (L2N.takes_of rfl rfl rfl rfl) (pmk_errN e_BadRules hr (by omega) (by rfl) (pa_cons (pv 1) pa_nil)))) (pss_nil))
 (pss_cons (ps_if (pt_cmpR op_eq (pv 0) pe_int (nomark _)) (pss_one (L2N.ps_raise rfl (L2N.takes_of rfl rfl rfl rfl) (pmk_errN e_UnknownMark hr (by omega) (by rfl) (pa_cons (pv 1) pa_nil)))) (pss_nil))
 (pss_one (L2N.ps_raise rfl (L2N.takes_of rfl rfl rfl rfl) (pmk_errN e_Clash hr (by omega) (by rfl) (pa_cons (pv 1) pa_nil)))))))), ?_⟩
  rintro ds W post ex ⟨i, z, rfl, hi, rfl, x⟩
  try dsimp only [cxOf, Cx.nox, Cx.wish]
  have h16 := sizeLine_eq
  rcases (show i = 0 ∨ i = 1 ∨ i = 2 ∨ i = 3 ∨ i = 4 ∨ i = 5 by omega) with rfl | rfl | rfl | rfl | rfl | rfl
  · walk_at "st"
    have e : errF 0 = ("value" : Str) := by decide +kernel
    rw [e] at x
    exact fun d _ => x d
  · walk_at "st"
    have e : errF 1 = ("place" : Str) := by decide +kernel
    rw [e] at x
    exact fun d _ => x d
  · walk_at "st"
    have e : errF 2 = ("part" : Str) := by decide +kernel
    rw [e] at x
    exact fun d _ => x d
  · walk_at "st"
    have e : errF 3 = ("part" : Str) := by decide +kernel
    rw [e] at x
    exact fun d _ => x d
  · walk_at "st"
    have e : errF 4 = ("mark" : Str) := by decide +kernel
    rw [e] at x
    exact fun d _ => x d
  · walk_at "st"
    have e : errF 5 = ("mark" : Str) := by decide +kernel
    rw [e] at x
    exact fun d _ => x d
abbrev s_law_raised_too : Stmt := top 24
theorem sc_law_raised_too : FnScope ["_law_which", "_law_thing"] ["_law_which", "_law_thing"] (defScope s_law_raised_too) := ⟨rfl, rfl, rfl, by decide +kernel, rfl, by decide +kernel, by decide +kernel⟩
theorem c_law_raised_too {P : Program} {w : World} {K : PySem.W.Frag} {mg : Str → Option Value} {base : Heap} {cl : Nat → Addr} {f : Addr} {fd : FuncData} (hm : mg "_law_raised_too" = some (.ref f)) (B : Blt mg) (Z : ZZ K w mg cl) (Fn : Fun K "_law_raised_too" "_law_raised_too" s_law_raised_too f fd)
    (e_Apart : ErrU P w K mg base 1 "Apart" (cl 36) "web")
    (e_BadBook : ErrU P w K mg base 1 "BadBook" (cl 37) "part")
    (e_UnknownPlayer : ErrU P w K mg base 1 "UnknownPlayer" (cl 38) "name")
    (e_NoPlayer : ErrU P w K mg base 1 "NoPlayer" (cl 39) "wish") : CalXN P w K mg base 3 "_law_raised_too" (spX FK ⟨K, cl⟩ (S_raised2)) := by
  refine calXND hm Fn sc_law_raised_too (by intro ds W post ex h; first | (obtain ⟨rfl, _⟩ := h; rfl) | (obtain ⟨_, rfl, _⟩ := h; rfl) | (obtain ⟨_, _, rfl, _⟩ := h; rfl) | (obtain ⟨_, _, _, rfl, _⟩ := h; rfl) | (obtain ⟨_, _, _, _, rfl, _⟩ := h; rfl) | (obtain ⟨_, _, _, _, _, rfl, _⟩ := h; rfl) | (obtain ⟨_, _, _, _, _, _, rfl, _⟩ := h; rfl) | (obtain ⟨_, _, _, _, _, _, _, rfl, _⟩ := h; rfl) | (obtain ⟨_, _, _, _, _, _, _, _, rfl, _⟩ := h; rfl) | (obtain ⟨_, _, _, _, _, _, _, _, _, rfl, _⟩ := h; rfl) | (obtain ⟨_, _, _, _, _, _, _, _, _, _, rfl, _⟩ := h; rfl) | (obtain ⟨_, _, _, _, _, _, _, _, _, _, _, rfl, _⟩ := h; rfl)) (fun _ _ _ _ _ _ us hl => match us, hl with | [_, _], _ => rfl)  fun cdv A outer s H E hr => ⟨_, pss_cons (ps_if (pt_cmpR op_eq (pv 0) pe_int (nomark _)) (pss_one (L2N.ps_raise rfl (L2N.takes_of rfl rfl rfl rfl) (pmk_errN e_Apart hr (by omega) (by rfl) (pa_cons (pv 1) pa_nil)))) (pss_nil))
 (pss_cons (ps_if (pt_cmpR op_eq (pv 0) pe_int (nomark _)) (pss_one (L2N.ps_raise rfl (L2N.takes_of rfl rfl rfl rfl) (pmk_errN e_BadBook hr (by omega) (by rfl) (pa_cons (pv 1) pa_nil)))) (pss_nil))
 (pss_cons (ps_if (pt_cmpR op_eq (pv 0) pe_int (nomark _)) (pss_one (L2N.ps_raise rfl (L2N.takes_of rfl rfl rfl rfl) (pmk_errN e_UnknownPlayer hr (by omega) (by rfl) (pa_cons (pv 1) pa_nil)))) (pss_nil))
 (pss_cons (ps_if (pt_cmpR op_eq (pv 0) pe_int (nomark _)) (pss_one (L2N.ps_raise rfl (L2N.takes_of rfl rfl rfl rfl) (pmk_errN e_NoPlayer hr (by omega) (by rfl) (pa_cons (pv 1) pa_nil)))) (pss_nil))
 (pss_cons (ps_if (pt_cmpR op_eq (pv 0) pe_int (nomark _)) (pss_one (L2N.ps_raise rfl (L2N.takes_of rfl rfl rfl rfl) (pmk_er0N Z.r100 (by rfl)))) (pss_nil))
 (pss_one (L2N.ps_raise rfl (L2N.takes_of rfl rfl rfl rfl) (pmk_er0N Z.r101 (by rfl)))))))), ?_⟩
  rintro ds W post ex ⟨i, z, rfl, hi6, hi, rfl, x1, x2⟩
  try dsimp only [cxOf, Cx.nox, Cx.wish]
  have h16 := sizeLine_eq
  rcases (show i = 6 ∨ i = 7 ∨ i = 8 ∨ i = 9 ∨ i = 10 ∨ i = 11 by omega) with rfl | rfl | rfl | rfl | rfl | rfl
  · walk_at "st"
    have e : errF 6 = ("web" : Str) := by decide +kernel
    have x := x1 (by decide)
    rw [e] at x
    exact fun d _ => x d
  · walk_at "st"
    have e : errF 7 = ("part" : Str) := by decide +kernel
    have x := x1 (by decide)
    rw [e] at x
    exact fun d _ => x d
  · walk_at "st"
    have e : errF 8 = ("name" : Str) := by decide +kernel
    have x := x1 (by decide)
    rw [e] at x
    exact fun d _ => x d
  · walk_at "st"
    have e : errF 9 = ("wish" : Str) := by decide +kernel
    have x := x1 (by decide)
    rw [e] at x
    exact fun d _ => x d
  · walk_at "st"
    exact swx_raise0 (c := 100) (x2 (by decide))
  · walk_at "st"
    exact swx_raise0 (c := 101) (x2 (by decide))
end
section
theorem call_reprUK {X : Cx} {K : PySem.W.Frag} (hK : X.K = K) (hg : X.A.guards = some []) (hu : X.A.units + 64 < cLine) : CallR X (.builtin "repr") (rRepU K) := hK ▸ call_reprU hg hu
abbrev s_law_caught : Stmt := top 25
theorem sc_law_caught : FnScope ["_law_which", "_law_thing", "_law_found", "e"] ["_law_which", "_law_thing"] (defScope s_law_caught) := ⟨rfl, rfl, rfl, by decide +kernel, rfl, by decide +kernel, by decide +kernel⟩
theorem c_law_caught {P : Program} {w : World} {K : PySem.W.Frag} {mg : Str → Option Value} {base : Heap} {cl : Nat → Addr} {f : Addr} {fd : FuncData} (hm : mg "_law_caught" = some (.ref f)) (B : Blt mg) (Z : ZZ K w mg cl) (Fn : Fun K "_law_caught" "_law_caught" s_law_caught f fd)
    (c_law_raised : CalXN P w K mg base 3 "_law_raised" (spX FK ⟨K, cl⟩ (S_raised1)))
    (c_law_raised_too : CalXN P w K mg base 3 "_law_raised_too" (spX FK ⟨K, cl⟩ (S_raised2)))
    (cs_law_is_of : ∀ (a : Addr) (cls : Value) (d : Option Addr), CalS P w K mg base 1 "_law_is_of" a cls d (spN FK ⟨K, cl⟩ ((S_isof cl (some (a, cls, d))))))
    (cs_law_told : ∀ (a : Addr) (cls : Value) (d : Option Addr), CalS P w K mg base 1 "_law_told" a cls d (spN FK ⟨K, cl⟩ ((S_toldE cl (some (a, cls, d)))))) : CalG P w K mg base 4 "_law_caught" (spN FK ⟨K, cl⟩ S_caughtE) := by
  refine calG hm Fn sc_law_caught (by intro ds W post h; first | (obtain ⟨rfl, _⟩ := h; rfl) | (obtain ⟨_, rfl, _⟩ := h; rfl) | (obtain ⟨_, _, rfl, _⟩ := h; rfl) | (obtain ⟨_, _, _, rfl, _⟩ := h; rfl) | (obtain ⟨_, _, _, _, rfl, _⟩ := h; rfl) | (obtain ⟨_, _, _, _, _, rfl, _⟩ := h; rfl) | (obtain ⟨_, _, _, _, _, _, rfl, _⟩ := h; rfl) | (obtain ⟨_, _, _, _, _, _, _, rfl, _⟩ := h; rfl) | (obtain ⟨_, _, _, _, _, _, _, _, rfl, _⟩ := h; rfl) | (obtain ⟨_, _, _, _, _, _, _, _, _, rfl, _⟩ := h; rfl) | (obtain ⟨_, _, _, _, _, _, _, _, _, _, rfl, _⟩ := h; rfl) | (obtain ⟨_, _, _, _, _, _, _, _, _, _, _, rfl, _⟩ := h; rfl)) (fun _ _ _ _ _ _ us hl => match us, hl with | [_, _], _ => rfl) fun cdv A outer s H hg hr => ⟨_, pss_cons (ps_set (i := 2) sc_law_caught.nd rfl (Or.inl rfl) pe_non)
 (pss_cons (L2N.ps_try_as (i := 3) rfl rfl sc_law_caught.nd rfl rfl ⟨rfl, by decide, .inl Z.g_WebError⟩ takes0N (fun W pn xe tk po => pss_cons (ps_if (pt_cmpR op_lt (pv 0) pe_int (nomark _)) (pss_one (ps_expr (pe_cXN c_law_raised hr (by omega) (by rfl) tk (pa_cons (pv 0) (pa_cons (pv 1) pa_nil))))) (pss_nil))
 (pss_one (ps_expr (pe_cXN c_law_raised_too hr (by omega) (by rfl) tk (pa_cons (pv 0) (pa_cons (pv 1) pa_nil)))))) (fun a oe cls d pn hz hf => pss_one (ps_set (i := 2) sc_law_caught.nd rfl (Or.inl rfl) (pe_lst (pa_cons (pe_cS (cs_law_is_of a cls d) (roomH_mark hr _) (by omega) List.mem_cons_self rfl hz hf (by rfl) (pa_cons (pv 3) (pa_cons (pv 0) pa_nil))) (pa_cons (pe_or (pe_cmpR op_gt (pv 0) pe_int (nomark _)) (pe_one (pe_cmpR op_eq (pe_callB (call_reprUK (K := K) rfl hg hr.units) (by rfl) B.repr bt_repr (pa_cons (pe_cS (cs_law_told a cls d) (roomH_mark hr _) (by omega) List.mem_cons_self rfl hz hf (by rfl) (pa_cons (pv 0) (pa_cons (pv 3) pa_nil))) pa_nil)) (pe_callB (call_reprUK (K := K) rfl hg hr.units) (by rfl) B.repr bt_repr (pa_cons (pv 1) pa_nil)) (nomark _)))) pa_nil))))))
 (pss_one (ps_ret (pv 2)))), ?_⟩
  rintro ds W post ⟨i, z, q, rfl, hi, rfl, hz, hs, k⟩
  try dsimp only [cxOf, Cx.nox, Cx.wish]
  have h16 := sizeLine_eq
  have hE : ∀ (d : Addr) (W' : Om), (i < 10 → (d, OD.xd [errF i] [z]) ∈ W') → ∀ a, ErrV cl (some (a, .ref (cl (ec i)), dq (ec i) d)) i z a W' := by
    intro d W' hm a
    unfold ErrV
    by_cases h : i < 10
    · rw [if_pos h]
      have e : dq (ec i) d = some d := by
        unfold dq ec
        rw [if_pos h, show Nat.ble 100 (30 + i) = false from by cases q : Nat.ble 100 (30 + i) with | false => rfl | true => exact absurd (Nat.le_of_ble_eq_true q) (by omega)]
      rw [e]
      exact ⟨d, .inl rfl, .inr ⟨d, rfl, hm h⟩⟩
    · rw [if_neg h]
      have e : dq (ec i) d = none := by
        unfold dq ec
        rw [if_neg h, Nat.ble_eq_true_of_le (show 100 ≤ 90 + i by omega)]
      rw [e]
      exact .inl rfl
  walk_at "st"
  refine sw_ofX (W0 := fun _ _ _ _ => False) ?_
  generalize hwx : wAs K (Value.ref (cl 40)) 3 _ _ = wx
  revert wx
  refine (swx_tryG (T := ⟨K, cl⟩) (cc := 40) (ex1 := fun c d G' W' => G' = [some (natD i), some z, some .non, none] ∧ c = ec i ∧ ∀ a, ErrV cl (some (a, .ref (cl c), dq c d)) i z a W') (fun _ _ => rfl) (fun W1 => ?_) ?_)
  · refine swx_seq ?_
    walk_at "st"
    refine if_dec (fun h => ?_) (fun h => ?_)
    · walk_at "st"
      refine handX0 ⟨i, z, rfl, by omega, rfl, fun d => ⟨rfl, ?_, ?_⟩⟩
      · unfold ec
        rw [if_pos (by omega)]
      · have h := hE d [(d, .xd [errF i] [z])] (fun _ => List.mem_cons_self)
        unfold ec at h
        rw [if_pos (by omega)] at h
        exact h
    · walk_at "st"
      refine handX0 ⟨i, z, rfl, by omega, hi, rfl, fun h10 d => ⟨rfl, ?_, ?_⟩, fun h10 => ⟨rfl, ?_, ?_⟩⟩
      · unfold ec
        rw [if_pos h10]
      · have h := hE d [(d, .xd [errF i] [z])] (fun _ => List.mem_cons_self)
        unfold ec at h
        rw [if_pos h10] at h
        exact h
      · unfold ec
        rw [if_neg (by omega)]
      · have h := hE 0 [] (fun h => absurd h (by omega))
        unfold ec at h
        rw [if_neg (by omega)] at h
        exact h
  · rintro c d G' W' ⟨rfl, rfl, he⟩
    refine ⟨true, (exm_all (cl := cl) Z.exm12 hi).1, fun _ a => ?_, fun h => by cases h⟩
    refine sw_set (ev_lstF (ea_cons ?_))
    walk_at "st"
    refine handA ⟨a, i, i, z, rfl, hi, hi, he a, ?_⟩
    try walk_at "st"
    refine if_dec (fun h => ?_) (fun h => ?_)
    · refine ea_nil ⟨by show 2 ≤ _; omega, ?_⟩
      show Sw _ _ (tRet (tVar 2)) _ _ _
      walk_at "st"
      rw [decide_eq_true (rfl : i = i)]
      exact k _
    · walk_at "st"
      refine handA ⟨a, i, z, rfl, by omega, he a, ?_⟩
      try walk_at "st"
      refine ca_reprU hz hs ?_
      refine ev_cb (ea_cons (ev_var rfl (ea_nil (ca_reprU hz hs ?_))))
      generalize q.shown = S
      refine bo_eqS ?_
      refine ea_nil ⟨by show 2 ≤ _; omega, ?_⟩
      show Sw _ _ (tRet (tVar 2)) _ _ _
      walk_at "st"
      rw [decide_eq_true (rfl : i = i), decide_eq_true (rfl : S = S)]
      exact k _
end
section
abbrev s_law : Stmt := top 26
theorem sc_law : FnScope ["_law_script", "_law_deck_here", "_law_lap", "_law_which", "_law_thing", "_law_shown", "_law_error"] ["_law_script"] (defScope s_law) := ⟨rfl, rfl, rfl, by decide +kernel, rfl, by decide +kernel, by decide +kernel⟩
theorem c_law {P : Program} {w : World} {K : PySem.W.Frag} {mg : Str → Option Value} {base : Heap} {cl : Nat → Addr} {f : Addr} {fd : FuncData} (hm : mg "law" = some (.ref f)) (B : Blt mg) (Z : ZZ K w mg cl) (Fn : Fun K "law" "law" s_law f fd)
    (c_law_deck : Cal P w K mg base 1 "_law_deck" (spN FK ⟨K, cl⟩ (S_deck DkA)) [])
    (c_law_value : Cal P w K mg base 23 "_law_value" (spN FK ⟨K, cl⟩ (S_value01 20)) [])
    (c_law_caught : CalG P w K mg base 4 "_law_caught" (spN FK ⟨K, cl⟩ S_caughtE))
    (c_law_made : Cal P w K mg base 3 "_law_made" (spN FK ⟨K, cl⟩ (S_madeE cl)) [])
    (c_law_named : Cal P w K mg base 3 "_law_named" (spN FK ⟨K, cl⟩ (S_madeE cl)) [])
    (c_law_told : Cal P w K mg base 1 "_law_told" (spN FK ⟨K, cl⟩ ((S_toldE cl none))) [])
    (c_law_is_of : Cal P w K mg base 1 "_law_is_of" (spN FK ⟨K, cl⟩ ((S_isof cl none))) []) : CalG P w K mg base 24 "law" (spN FK ⟨K, cl⟩ S_law) := by
  refine calG hm Fn sc_law (by intro ds W post h; first | (obtain ⟨rfl, _⟩ := h; rfl) | (obtain ⟨_, rfl, _⟩ := h; rfl) | (obtain ⟨_, _, rfl, _⟩ := h; rfl) | (obtain ⟨_, _, _, rfl, _⟩ := h; rfl) | (obtain ⟨_, _, _, _, rfl, _⟩ := h; rfl) | (obtain ⟨_, _, _, _, _, rfl, _⟩ := h; rfl) | (obtain ⟨_, _, _, _, _, _, rfl, _⟩ := h; rfl) | (obtain ⟨_, _, _, _, _, _, _, rfl, _⟩ := h; rfl) | (obtain ⟨_, _, _, _, _, _, _, _, rfl, _⟩ := h; rfl) | (obtain ⟨_, _, _, _, _, _, _, _, _, rfl, _⟩ := h; rfl) | (obtain ⟨_, _, _, _, _, _, _, _, _, _, rfl, _⟩ := h; rfl) | (obtain ⟨_, _, _, _, _, _, _, _, _, _, _, rfl, _⟩ := h; rfl)) (fun _ _ _ _ _ _ us hl => match us, hl with | [_], _ => rfl) fun cdv A outer s H hg hr => ⟨_, pss_cons (ps_set (i := 1) sc_law.nd rfl (Or.inl rfl) (pe_c c_law_deck hr (by omega) (by rfl) (pa_cons (pv 0) pa_nil)))
 (pss_cons (ps_for PassesOwn.never rfl (pi_range1 (by rfl) B.range (pa_cons pe_int pa_nil)) (pg_name (i := 2) sc_law.nd rfl (Or.inl rfl)) (pss_one (ps_for PassesOwn.never rfl (pi_range1 (by rfl) B.range (pa_cons pe_int pa_nil)) (pg_name (i := 3) sc_law.nd rfl (Or.inl rfl)) (pss_cons (ps_set (i := 4) sc_law.nd rfl (Or.inl rfl) (pe_c c_law_value hr (by omega) (by rfl) (pa_cons (pv 1) (pa_cons pe_int pa_nil))))
 (pss_cons (ps_set (i := 5) sc_law.nd rfl (Or.inl rfl) (pe_callB (call_reprU hg hr.units) (by rfl) B.repr bt_repr (pa_cons (pv 4) pa_nil)))
 (pss_cons (ps_if (PW.pt (pw_or (pt_cmpR (op_neD hr.units) (pe_cg c_law_caught hg hr (by omega) (by rfl) (pa_cons (pv 3) (pa_cons (pv 4) pa_nil))) (pe_lst (pa_cons pe_bl (pa_cons pe_bl pa_nil))) (nomark _)) (pw_or1 (pt_cmpR op_ne (pe_callB (call_reprU hg hr.units) (by rfl) B.repr bt_repr (pa_cons (pv 4) pa_nil)) (pv 5) (nomark _))))) (pss_one (ps_ret pe_bl)) (pss_nil))
 (pss_cons (ps_if (pt_cmpR op_gt (pv 3) pe_int (nomark _)) (pss_one (ps_continue)) (pss_nil))
 (pss_one (ps_for PassesOwn.never rfl (pi_tup (pe_tup (pa_cons (pe_c c_law_made hr (by omega) (by rfl) (pa_cons (pv 3) (pa_cons (pv 4) pa_nil))) (pa_cons (pe_c c_law_named hr (by omega) (by rfl) (pa_cons (pv 3) (pa_cons (pv 4) pa_nil))) pa_nil)))) (pg_name (i := 6) sc_law.nd rfl (Or.inl rfl)) (pss_one (ps_if (PW.pt (pw_or (pt_cmpR op_ne (pe_callB (call_reprU hg hr.units) (by rfl) B.repr bt_repr (pa_cons (pe_c c_law_told hr (by omega) (by rfl) (pa_cons (pv 3) (pa_cons (pv 6) pa_nil))) pa_nil)) (pv 5) (nomark _)) (pw_or1 (pt_not (pt_val (pe_c c_law_is_of hr (by omega) (by rfl) (pa_cons (pv 6) (pa_cons (pv 3) pa_nil)))))))) (pss_one (ps_ret pe_bl)) (pss_nil))))))))))))
 (pss_one (ps_ret (pe_and (pe_c c_law_is_of hr (by omega) (by rfl) (pa_cons (pe_mkV (pmk_er0 Z.r101 (by rfl))) (pa_cons pe_int pa_nil))) (pe_one (pe_c c_law_is_of hr (by omega) (by rfl) (pa_cons (pe_mkV (pmk_er0 Z.r100 (by rfl))) (pa_cons pe_int pa_nil)))))))), ?_⟩
  rintro ds W post ⟨ns, rfl, rfl, hns, k⟩
  try dsimp only [cxOf, Cx.nox, Cx.wish]
  have h16 := sizeLine_eq
  walk_at "st"
  refine handA ⟨ns, rfl, rfl, hns, fun a W hd => ?_⟩
  try walk_at "st"
  refine sw_for (ei_rng1 ?_)
  walk_at "st"
  refine ⟨by omega, by omega, fun i G W => ∃ Wg Wd, W = Wg ++ Wd ∧ DkA a (20000 * (i : Nat)) Wd ∧ ∃ o2 o3 o4 o5 o6, G = [some (.scr (ns.map V.int)), some (.adr a), o2, o3, o4, o5, o6], ⟨[], W, rfl, DkA_mono hd (by omega), _, _, _, _, _, rfl⟩, ?_, ?_⟩
  · rintro lap d G' W' hdd ⟨Wg, Wd, rfl, hd, o2, o3, o4, o5, o6, rfl⟩
    obtain ⟨hlap, rfl⟩ := rng_get hdd
    have hlap : lap < 2 := by simpa using hlap
    refine tg_name ?_
    refine sw_drp (List.sublist_append_right Wg Wd) ?_
    refine sw_for (ei_rng1 ?_)
    walk_at "st"
    refine ⟨by omega, by omega, fun i G W => ∃ Wg Wd, W = Wg ++ Wd ∧ DkA a (20000 * (lap : Nat) + 1000 * (i : Nat)) Wd ∧ ∃ o2 o3 o4 o5 o6, G = [some (.scr (ns.map V.int)), some (.adr a), o2, o3, o4, o5, o6], ⟨[], Wd, rfl, DkA_mono hd (by omega), _, _, _, _, _, rfl⟩, ?_, ?_⟩
    · rintro i d G' W' hdd ⟨Wg, Wd, rfl, hd, o2, o3, o4, o5, o6, rfl⟩
      obtain ⟨hi, hdq⟩ := rng_get hdd
      have hi : i < 12 := by simpa using hi
      obtain rfl : d = natD i := by rw [hdq]; simp [natD]
      refine tg_name ?_
      refine sw_drp (List.sublist_append_right Wg Wd) ?_
      walk_at "st"
      refine handA ⟨a, _, 2, rfl, hd, by omega, by omega, by omega, fun z q W1 hv hd1 => ?_⟩
      try walk_at "st"
      have hs := hv.shw (by decide) (by decide)
      refine ca_reprU hv.dr hs ?_
      walk_at "st"
      refine hand0 ⟨i, z, q, rfl, hi, rfl, hv.dr, hs, fun W2 => ?_⟩
      try simp only [List.nil_append]
      try walk_at "st"
      refine bo_neBl (a := [true, true]) (b := [true, true]) ?_
      refine ⟨_, rfl, if_not (by decide) ?_⟩
      walk_at "st"
      refine ca_reprU hv.dr hs ?_
      walk_at "st"
      generalize hS : q.shown = S
      refine if_not (by rw [decide_eq_true rfl]; rfl) ?_
      walk_at "st"
      refine if_dec (fun h9 => ?_) (fun h9 => ?_)
      · refine sw_cont ?_
        exact ⟨W2, W1, rfl, DkA_mono hd1 (by push_cast; omega), _, _, _, _, _, rfl⟩
      · walk_at "st"
        refine sw_for (ei_tup ?_)
        walk_at "st"
        refine hand0 ⟨i, z, rfl, by omega, rfl, fun b1 V1 he1 => ?_⟩
        try simp only [List.nil_append]
        try walk_at "st"
        refine hand0 ⟨i, z, rfl, by omega, rfl, fun b2 V2 he2 => ?_⟩
        try simp only [List.nil_append]
        try walk_at "st"
        have hm1 := he1.mono (W' := V2 ++ (V1 ++ (W2 ++ W1))) (fun x hx => List.mem_append_right _ (List.mem_append_left _ hx))
        have hm2 := he2.mono (W' := V2 ++ (V1 ++ (W2 ++ W1))) (fun x hx => List.mem_append_left _ hx)
        refine ⟨fun j G W => W = V2 ++ (V1 ++ (W2 ++ W1)) ∧ ∃ o2 o6, G = [some (.scr (ns.map V.int)), some (.adr a), o2, some (natD i), some z, some (.str S), o6], ⟨rfl, _, _, rfl⟩, ?_, ?_⟩
        · rintro j d G' W' hj ⟨rfl, o2, o6, rfl⟩
          obtain ⟨b, rfl, hm⟩ : ∃ b, d = .adr b ∧ ErrV cl none i z b (V2 ++ (V1 ++ (W2 ++ W1))) := by
            match j, hj with
            | 0, hj =>
              cases hj
              exact ⟨_, rfl, hm1⟩
            | 1, hj =>
              cases hj
              exact ⟨_, rfl, hm2⟩
          refine tg_name ?_
          walk_at "st"
          refine handA ⟨b, i, z, rfl, by omega, hm, ?_⟩
          try walk_at "st"
          refine ca_reprU hv.dr hs ?_
          rw [hS]
          walk_at "st"
          refine if_not (by rw [decide_eq_true rfl]; rfl) ?_
          walk_at "st"
          refine handA ⟨b, i, i, z, rfl, hi, hi, hm, ?_⟩
          try walk_at "st"
          refine if_not (by rw [decide_eq_true rfl]; rfl) ?_
          walk_at "st"
          exact ⟨rfl, _, _, rfl⟩
        · rintro G' W' ⟨rfl, o2, o6, rfl⟩
          exact ⟨V2 ++ (V1 ++ W2), W1, by simp only [List.append_assoc], DkA_mono hd1 (by push_cast; omega), _, _, _, _, _, rfl⟩
    · rintro G' W' ⟨Wg, Wd, rfl, hd, o2, o3, o4, o5, o6, rfl⟩
      rw [rng_len] at hd
      exact ⟨Wg, Wd, rfl, DkA_mono hd (by push_cast; omega), _, _, _, _, _, rfl⟩
  rintro G' W' ⟨Wg, Wd, rfl, hd, o2, o3, o4, o5, o6, rfl⟩
  refine sw_drp (List.nil_sublist _) ?_
  walk_at "st"
  refine ev_er0V (T := ⟨K, cl⟩) (c := 101) (fun b hb => ?_)
  walk_at "st"
  refine handA ⟨b, 11, 11, .non, rfl, by decide, by decide, by unfold ErrV; rw [if_neg (by decide)]; exact .inr List.mem_cons_self, ?_⟩
  try walk_at "st"
  refine ev_er0V (T := ⟨K, cl⟩) (c := 100) (fun b2 hb2 => ?_)
  walk_at "st"
  refine handA ⟨b2, 10, 10, .non, rfl, by decide, by decide, by unfold ErrV; rw [if_neg (by decide)]; exact .inr List.mem_cons_self, ?_⟩
  try walk_at "st"
  exact k _
end
end N
set_option Elab.async false
set_option linter.all false
set_option maxRecDepth 100000
namespace N
open PySem PySem.Spec PyProof.Rows L2
open C8 (Cal Met Mak InsC)
set_option maxHeartbeats 4000000
theorem all_mk {P : Program} {w : World} {K : PySem.W.Frag} {h base : Heap} {mg : Str → Option Value} {fa : Addr} (X : K.In h) (G : h.Ns mainGlobals mg) (hfa : mg "law" = some (.ref fa)) (hw : w = w)
    {C30 : Addr} {C31 : Addr} {C32 : Addr} {C33 : Addr} {C34 : Addr} {C35 : Addr} {C36 : Addr} {C37 : Addr} {C38 : Addr} {C39 : Addr} {C100 : Addr} {C101 : Addr} {C40 : Addr}
    
    {nme30 qne30 : Str} {NAe30 : Addr} {bse30 : List Value} {sne30 : List Str} {sube30 : List Value} {abe30 : Bool} {coe30 : Option Bool} {dde30 : Option Addr} {x0e30 x1e30 x2e30 x3e30 x5e30 : Option Value}
    
    {nme31 qne31 : Str} {NAe31 : Addr} {bse31 : List Value} {sne31 : List Str} {sube31 : List Value} {abe31 : Bool} {coe31 : Option Bool} {dde31 : Option Addr} {x0e31 x1e31 x2e31 x3e31 x5e31 : Option Value}
    
    {nme32 qne32 : Str} {NAe32 : Addr} {bse32 : List Value} {sne32 : List Str} {sube32 : List Value} {abe32 : Bool} {coe32 : Option Bool} {dde32 : Option Addr} {x0e32 x1e32 x2e32 x3e32 x5e32 : Option Value}
    
    {nme33 qne33 : Str} {NAe33 : Addr} {bse33 : List Value} {sne33 : List Str} {sube33 : List Value} {abe33 : Bool} {coe33 : Option Bool} {dde33 : Option Addr} {x0e33 x1e33 x2e33 x3e33 x5e33 : Option Value}
    
    {nme34 qne34 : Str} {NAe34 : Addr} {bse34 : List Value} {sne34 : List Str} {sube34 : List Value} {abe34 : Bool} {coe34 : Option Bool} {dde34 : Option Addr} {x0e34 x1e34 x2e34 x3e34 x5e34 : Option Value}
    
    {nme35 qne35 : Str} {NAe35 : Addr} {bse35 : List Value} {sne35 : List Str} {sube35 : List Value} {abe35 : Bool} {coe35 : Option Bool} {dde35 : Option Addr} {x0e35 x1e35 x2e35 x3e35 x5e35 : Option Value}
    
    {nme36 qne36 : Str} {NAe36 : Addr} {bse36 : List Value} {sne36 : List Str} {sube36 : List Value} {abe36 : Bool} {coe36 : Option Bool} {dde36 : Option Addr} {x0e36 x1e36 x2e36 x3e36 x5e36 : Option Value}
    
    {nme37 qne37 : Str} {NAe37 : Addr} {bse37 : List Value} {sne37 : List Str} {sube37 : List Value} {abe37 : Bool} {coe37 : Option Bool} {dde37 : Option Addr} {x0e37 x1e37 x2e37 x3e37 x5e37 : Option Value}
    
    {nme38 qne38 : Str} {NAe38 : Addr} {bse38 : List Value} {sne38 : List Str} {sube38 : List Value} {abe38 : Bool} {coe38 : Option Bool} {dde38 : Option Addr} {x0e38 x1e38 x2e38 x3e38 x5e38 : Option Value}
    
    {nme39 qne39 : Str} {NAe39 : Addr} {bse39 : List Value} {sne39 : List Str} {sube39 : List Value} {abe39 : Bool} {coe39 : Option Bool} {dde39 : Option Addr} {x0e39 x1e39 x2e39 x3e39 x5e39 : Option Value}
    {CW : Addr}
    {f1 : Addr} {fd1 : FuncData}
    {f2 : Addr} {fd2 : FuncData}
    {f3 : Addr} {fd3 : FuncData}
    {f4 : Addr} {fd4 : FuncData}
    {f5 : Addr} {fd5 : FuncData}
    {f6 : Addr} {fd6 : FuncData}
    {f7 : Addr} {fd7 : FuncData}
    {f8 : Addr} {fd8 : FuncData}
    {f9 : Addr} {fd9 : FuncData}
    {f10 : Addr} {fd10 : FuncData}
    {f11 : Addr} {fd11 : FuncData}
    {f12 : Addr} {fd12 : FuncData}
    {f13 : Addr} {fd13 : FuncData}
    {f14 : Addr} {fd14 : FuncData}
    {f15 : Addr} {fd15 : FuncData}
    {f16 : Addr} {fd16 : FuncData}
    {f17 : Addr} {fd17 : FuncData}
    {f18 : Addr} {fd18 : FuncData}
    {f19 : Addr} {fd19 : FuncData}
    {f20 : Addr} {fd20 : FuncData}
    {f21 : Addr} {fd21 : FuncData}
    {f22 : Addr} {fd22 : FuncData}
    (z0 : PySem.W.nsIn K mainGlobals "len" = some none)
    (z1 : PySem.W.nsIn K mainGlobals "int" = some none)
    (z2 : PySem.W.nsIn K mainGlobals "str" = some none)
    (z3 : PySem.W.nsIn K mainGlobals "range" = some none)
    (z4 : PySem.W.nsIn K mainGlobals "list" = some none)
    (z5 : PySem.W.nsIn K mainGlobals "tuple" = some none)
    (z6 : PySem.W.nsIn K mainGlobals "dict" = some none)
    (z7 : PySem.W.nsIn K mainGlobals "set" = some none)
    (z8 : PySem.W.nsIn K mainGlobals "sorted" = some none)
    (z9 : PySem.W.nsIn K mainGlobals "isinstance" = some none)
    (z10 : PySem.W.nsIn K mainGlobals "repr" = some none)
    (z11 : PySem.W.nsIn K mainGlobals "max" = some none)
    (z12 : PySem.W.nsIn K mainGlobals "min" = some none)
    (z13 : PySem.W.nsIn K mainGlobals "sum" = some none)
    (z14 : PySem.W.nsIn K mainGlobals "all" = some none)
    (z15 : PySem.W.nsIn K mainGlobals "any" = some none)
    (z16 : PySem.W.nsIn K mainGlobals "zip" = some none)
    (z17 : PySem.W.nsIn K mainGlobals "enumerate" = some none)
    (z18 : PySem.W.nsIn K mainGlobals "bool" = some none)
    (z19 : PySem.W.nsIn K mainGlobals "reversed" = some none)
    (z20 : PySem.W.nsIn K mainGlobals "type" = some none)
    (aC30 : PySem.W.nsIn K mainGlobals "BadFormula" = some (some (.ref C30)))
    (xL30 : K.lookup C30 = some (PySem.excClassObj nme30 qne30 C30 NAe30 bse30 [.ref CW, .type "Exception", .type "BaseException", .type "object"] true sne30 sube30 abe30 coe30 dde30 x0e30 x1e30 x2e30 x3e30 x5e30 "Exception.__new__"))
    (sa30 : PySem.W.findIn K (.ref C30) "__setattr__" = some (some (.builtin "object.__setattr__")))
    (eC30 : PySem.W.subIn K (.ref C30) (.type "BaseException") = some true)
    (tC30 : PySem.W.typeIn K (.ref C30) = some (.type "type"))
    (kc30 : PySem.W.keepIn K (.ref C30) = true)
    (ga30 : PySem.W.findIn K (.ref C30) "__getattribute__" = some (some (.builtin "BaseException.__getattribute__")))
    (gg30 : PySem.W.findIn K (.ref C30) "__getattr__" = some none)
    (hd30 : PySem.W.hasDictIn K C30 = true)
    (no30 : PySem.W.findIn K (.ref C30) "value" = some none)
    (aC31 : PySem.W.nsIn K mainGlobals "BadText" = some (some (.ref C31)))
    (xL31 : K.lookup C31 = some (PySem.excClassObj nme31 qne31 C31 NAe31 bse31 [.ref CW, .type "Exception", .type "BaseException", .type "object"] true sne31 sube31 abe31 coe31 dde31 x0e31 x1e31 x2e31 x3e31 x5e31 "Exception.__new__"))
    (sa31 : PySem.W.findIn K (.ref C31) "__setattr__" = some (some (.builtin "object.__setattr__")))
    (eC31 : PySem.W.subIn K (.ref C31) (.type "BaseException") = some true)
    (tC31 : PySem.W.typeIn K (.ref C31) = some (.type "type"))
    (kc31 : PySem.W.keepIn K (.ref C31) = true)
    (ga31 : PySem.W.findIn K (.ref C31) "__getattribute__" = some (some (.builtin "BaseException.__getattribute__")))
    (gg31 : PySem.W.findIn K (.ref C31) "__getattr__" = some none)
    (hd31 : PySem.W.hasDictIn K C31 = true)
    (no31 : PySem.W.findIn K (.ref C31) "place" = some none)
    (aC32 : PySem.W.nsIn K mainGlobals "BadWeb" = some (some (.ref C32)))
    (xL32 : K.lookup C32 = some (PySem.excClassObj nme32 qne32 C32 NAe32 bse32 [.ref CW, .type "Exception", .type "BaseException", .type "object"] true sne32 sube32 abe32 coe32 dde32 x0e32 x1e32 x2e32 x3e32 x5e32 "Exception.__new__"))
    (sa32 : PySem.W.findIn K (.ref C32) "__setattr__" = some (some (.builtin "object.__setattr__")))
    (eC32 : PySem.W.subIn K (.ref C32) (.type "BaseException") = some true)
    (tC32 : PySem.W.typeIn K (.ref C32) = some (.type "type"))
    (kc32 : PySem.W.keepIn K (.ref C32) = true)
    (ga32 : PySem.W.findIn K (.ref C32) "__getattribute__" = some (some (.builtin "BaseException.__getattribute__")))
    (gg32 : PySem.W.findIn K (.ref C32) "__getattr__" = some none)
    (hd32 : PySem.W.hasDictIn K C32 = true)
    (no32 : PySem.W.findIn K (.ref C32) "part" = some none)
    (aC33 : PySem.W.nsIn K mainGlobals "BadRules" = some (some (.ref C33)))
    (xL33 : K.lookup C33 = some (PySem.excClassObj nme33 qne33 C33 NAe33 bse33 [.ref CW, .type "Exception", .type "BaseException", .type "object"] true sne33 sube33 abe33 coe33 dde33 x0e33 x1e33 x2e33 x3e33 x5e33 "Exception.__new__"))
    (sa33 : PySem.W.findIn K (.ref C33) "__setattr__" = some (some (.builtin "object.__setattr__")))
    (eC33 : PySem.W.subIn K (.ref C33) (.type "BaseException") = some true)
    (tC33 : PySem.W.typeIn K (.ref C33) = some (.type "type"))
    (kc33 : PySem.W.keepIn K (.ref C33) = true)
    (ga33 : PySem.W.findIn K (.ref C33) "__getattribute__" = some (some (.builtin "BaseException.__getattribute__")))
    (gg33 : PySem.W.findIn K (.ref C33) "__getattr__" = some none)
    (hd33 : PySem.W.hasDictIn K C33 = true)
    (no33 : PySem.W.findIn K (.ref C33) "part" = some none)
    (aC34 : PySem.W.nsIn K mainGlobals "UnknownMark" = some (some (.ref C34)))
    (xL34 : K.lookup C34 = some (PySem.excClassObj nme34 qne34 C34 NAe34 bse34 [.ref CW, .type "Exception", .type "BaseException", .type "object"] true sne34 sube34 abe34 coe34 dde34 x0e34 x1e34 x2e34 x3e34 x5e34 "Exception.__new__"))
    (sa34 : PySem.W.findIn K (.ref C34) "__setattr__" = some (some (.builtin "object.__setattr__")))
    (eC34 : PySem.W.subIn K (.ref C34) (.type "BaseException") = some true)
    (tC34 : PySem.W.typeIn K (.ref C34) = some (.type "type"))
    (kc34 : PySem.W.keepIn K (.ref C34) = true)
    (ga34 : PySem.W.findIn K (.ref C34) "__getattribute__" = some (some (.builtin "BaseException.__getattribute__")))
    (gg34 : PySem.W.findIn K (.ref C34) "__getattr__" = some none)
    (hd34 : PySem.W.hasDictIn K C34 = true)
    (no34 : PySem.W.findIn K (.ref C34) "mark" = some none)
    (aC35 : PySem.W.nsIn K mainGlobals "Clash" = some (some (.ref C35)))
    (xL35 : K.lookup C35 = some (PySem.excClassObj nme35 qne35 C35 NAe35 bse35 [.ref CW, .type "Exception", .type "BaseException", .type "object"] true sne35 sube35 abe35 coe35 dde35 x0e35 x1e35 x2e35 x3e35 x5e35 "Exception.__new__"))
    (sa35 : PySem.W.findIn K (.ref C35) "__setattr__" = some (some (.builtin "object.__setattr__")))
    (eC35 : PySem.W.subIn K (.ref C35) (.type "BaseException") = some true)
    (tC35 : PySem.W.typeIn K (.ref C35) = some (.type "type"))
    (kc35 : PySem.W.keepIn K (.ref C35) = true)
    (ga35 : PySem.W.findIn K (.ref C35) "__getattribute__" = some (some (.builtin "BaseException.__getattribute__")))
    (gg35 : PySem.W.findIn K (.ref C35) "__getattr__" = some none)
    (hd35 : PySem.W.hasDictIn K C35 = true)
    (no35 : PySem.W.findIn K (.ref C35) "mark" = some none)
    (aC36 : PySem.W.nsIn K mainGlobals "Apart" = some (some (.ref C36)))
    (xL36 : K.lookup C36 = some (PySem.excClassObj nme36 qne36 C36 NAe36 bse36 [.ref CW, .type "Exception", .type "BaseException", .type "object"] true sne36 sube36 abe36 coe36 dde36 x0e36 x1e36 x2e36 x3e36 x5e36 "Exception.__new__"))
    (sa36 : PySem.W.findIn K (.ref C36) "__setattr__" = some (some (.builtin "object.__setattr__")))
    (eC36 : PySem.W.subIn K (.ref C36) (.type "BaseException") = some true)
    (tC36 : PySem.W.typeIn K (.ref C36) = some (.type "type"))
    (kc36 : PySem.W.keepIn K (.ref C36) = true)
    (ga36 : PySem.W.findIn K (.ref C36) "__getattribute__" = some (some (.builtin "BaseException.__getattribute__")))
    (gg36 : PySem.W.findIn K (.ref C36) "__getattr__" = some none)
    (hd36 : PySem.W.hasDictIn K C36 = true)
    (no36 : PySem.W.findIn K (.ref C36) "web" = some none)
    (aC37 : PySem.W.nsIn K mainGlobals "BadBook" = some (some (.ref C37)))
    (xL37 : K.lookup C37 = some (PySem.excClassObj nme37 qne37 C37 NAe37 bse37 [.ref CW, .type "Exception", .type "BaseException", .type "object"] true sne37 sube37 abe37 coe37 dde37 x0e37 x1e37 x2e37 x3e37 x5e37 "Exception.__new__"))
    (sa37 : PySem.W.findIn K (.ref C37) "__setattr__" = some (some (.builtin "object.__setattr__")))
    (eC37 : PySem.W.subIn K (.ref C37) (.type "BaseException") = some true)
    (tC37 : PySem.W.typeIn K (.ref C37) = some (.type "type"))
    (kc37 : PySem.W.keepIn K (.ref C37) = true)
    (ga37 : PySem.W.findIn K (.ref C37) "__getattribute__" = some (some (.builtin "BaseException.__getattribute__")))
    (gg37 : PySem.W.findIn K (.ref C37) "__getattr__" = some none)
    (hd37 : PySem.W.hasDictIn K C37 = true)
    (no37 : PySem.W.findIn K (.ref C37) "part" = some none)
    (aC38 : PySem.W.nsIn K mainGlobals "UnknownPlayer" = some (some (.ref C38)))
    (xL38 : K.lookup C38 = some (PySem.excClassObj nme38 qne38 C38 NAe38 bse38 [.ref CW, .type "Exception", .type "BaseException", .type "object"] true sne38 sube38 abe38 coe38 dde38 x0e38 x1e38 x2e38 x3e38 x5e38 "Exception.__new__"))
    (sa38 : PySem.W.findIn K (.ref C38) "__setattr__" = some (some (.builtin "object.__setattr__")))
    (eC38 : PySem.W.subIn K (.ref C38) (.type "BaseException") = some true)
    (tC38 : PySem.W.typeIn K (.ref C38) = some (.type "type"))
    (kc38 : PySem.W.keepIn K (.ref C38) = true)
    (ga38 : PySem.W.findIn K (.ref C38) "__getattribute__" = some (some (.builtin "BaseException.__getattribute__")))
    (gg38 : PySem.W.findIn K (.ref C38) "__getattr__" = some none)
    (hd38 : PySem.W.hasDictIn K C38 = true)
    (no38 : PySem.W.findIn K (.ref C38) "name" = some none)
    (aC39 : PySem.W.nsIn K mainGlobals "NoPlayer" = some (some (.ref C39)))
    (xL39 : K.lookup C39 = some (PySem.excClassObj nme39 qne39 C39 NAe39 bse39 [.ref CW, .type "Exception", .type "BaseException", .type "object"] true sne39 sube39 abe39 coe39 dde39 x0e39 x1e39 x2e39 x3e39 x5e39 "Exception.__new__"))
    (sa39 : PySem.W.findIn K (.ref C39) "__setattr__" = some (some (.builtin "object.__setattr__")))
    (eC39 : PySem.W.subIn K (.ref C39) (.type "BaseException") = some true)
    (tC39 : PySem.W.typeIn K (.ref C39) = some (.type "type"))
    (kc39 : PySem.W.keepIn K (.ref C39) = true)
    (ga39 : PySem.W.findIn K (.ref C39) "__getattribute__" = some (some (.builtin "BaseException.__getattribute__")))
    (gg39 : PySem.W.findIn K (.ref C39) "__getattr__" = some none)
    (hd39 : PySem.W.hasDictIn K C39 = true)
    (no39 : PySem.W.findIn K (.ref C39) "wish" = some none)
    (aC100 : PySem.W.nsIn K mainGlobals "NothingToUndo" = some (some (.ref C100)))
    (e0100 : PySem.W.excIn K C100 [.type "Exception", .type "BaseException", .type "object"] "Exception.__new__" = true)
    (kc100 : PySem.W.keepIn K (.ref C100) = true)
    (eC100 : PySem.W.subIn K (.ref C100) (.type "BaseException") = some true)
    (tC100 : PySem.W.typeIn K (.ref C100) = some (.type "type"))
    (ga100 : PySem.W.findIn K (.ref C100) "__getattribute__" = some (some (.builtin "BaseException.__getattribute__")))
    (gg100 : PySem.W.findIn K (.ref C100) "__getattr__" = some none)
    (hd100 : PySem.W.hasDictIn K C100 = true)
    (aC101 : PySem.W.nsIn K mainGlobals "NothingToRedo" = some (some (.ref C101)))
    (e0101 : PySem.W.excIn K C101 [.type "Exception", .type "BaseException", .type "object"] "Exception.__new__" = true)
    (kc101 : PySem.W.keepIn K (.ref C101) = true)
    (eC101 : PySem.W.subIn K (.ref C101) (.type "BaseException") = some true)
    (tC101 : PySem.W.typeIn K (.ref C101) = some (.type "type"))
    (ga101 : PySem.W.findIn K (.ref C101) "__getattribute__" = some (some (.builtin "BaseException.__getattribute__")))
    (gg101 : PySem.W.findIn K (.ref C101) "__getattr__" = some none)
    (hd101 : PySem.W.hasDictIn K C101 = true)
    (aC40 : PySem.W.nsIn K mainGlobals "WebError" = some (some (.ref C40)))
    (ik30_40 : PySem.W.kitOne K (.ref C30) (.ref C40) = some true)
    (ik31_40 : PySem.W.kitOne K (.ref C31) (.ref C40) = some true)
    (ik32_40 : PySem.W.kitOne K (.ref C32) (.ref C40) = some true)
    (ik33_40 : PySem.W.kitOne K (.ref C33) (.ref C40) = some true)
    (ik34_40 : PySem.W.kitOne K (.ref C34) (.ref C40) = some true)
    (ik35_40 : PySem.W.kitOne K (.ref C35) (.ref C40) = some true)
    (ik36_40 : PySem.W.kitOne K (.ref C36) (.ref C40) = some true)
    (ik37_40 : PySem.W.kitOne K (.ref C37) (.ref C40) = some true)
    (ik38_40 : PySem.W.kitOne K (.ref C38) (.ref C40) = some true)
    (ik39_40 : PySem.W.kitOne K (.ref C39) (.ref C40) = some true)
    (ik100_40 : PySem.W.kitOne K (.ref C100) (.ref C40) = some true)
    (ik101_40 : PySem.W.kitOne K (.ref C101) (.ref C40) = some true)
    (ha30 : PySem.W.findIn K (.ref C30) "__class__" = some (some (.builtin "object.__class__")))
    (hn30 : PySem.W.specialIn K (.builtin "object.__class__") "__get__" = some (some (.builtin "getset_descriptor.__get__")))
    (htk30 : PySem.W.takesIn K (.builtin "object.__class__") = some true)
    (hmo30 : PySem.W.mroIn K C30 (.type "object") = some true)
    (ha31 : PySem.W.findIn K (.ref C31) "__class__" = some (some (.builtin "object.__class__")))
    (hn31 : PySem.W.specialIn K (.builtin "object.__class__") "__get__" = some (some (.builtin "getset_descriptor.__get__")))
    (htk31 : PySem.W.takesIn K (.builtin "object.__class__") = some true)
    (hmo31 : PySem.W.mroIn K C31 (.type "object") = some true)
    (ha32 : PySem.W.findIn K (.ref C32) "__class__" = some (some (.builtin "object.__class__")))
    (hn32 : PySem.W.specialIn K (.builtin "object.__class__") "__get__" = some (some (.builtin "getset_descriptor.__get__")))
    (htk32 : PySem.W.takesIn K (.builtin "object.__class__") = some true)
    (hmo32 : PySem.W.mroIn K C32 (.type "object") = some true)
    (ha33 : PySem.W.findIn K (.ref C33) "__class__" = some (some (.builtin "object.__class__")))
    (hn33 : PySem.W.specialIn K (.builtin "object.__class__") "__get__" = some (some (.builtin "getset_descriptor.__get__")))
    (htk33 : PySem.W.takesIn K (.builtin "object.__class__") = some true)
    (hmo33 : PySem.W.mroIn K C33 (.type "object") = some true)
    (ha34 : PySem.W.findIn K (.ref C34) "__class__" = some (some (.builtin "object.__class__")))
    (hn34 : PySem.W.specialIn K (.builtin "object.__class__") "__get__" = some (some (.builtin "getset_descriptor.__get__")))
    (htk34 : PySem.W.takesIn K (.builtin "object.__class__") = some true)
    (hmo34 : PySem.W.mroIn K C34 (.type "object") = some true)
    (ha35 : PySem.W.findIn K (.ref C35) "__class__" = some (some (.builtin "object.__class__")))
    (hn35 : PySem.W.specialIn K (.builtin "object.__class__") "__get__" = some (some (.builtin "getset_descriptor.__get__")))
    (htk35 : PySem.W.takesIn K (.builtin "object.__class__") = some true)
    (hmo35 : PySem.W.mroIn K C35 (.type "object") = some true)
    (ha36 : PySem.W.findIn K (.ref C36) "__class__" = some (some (.builtin "object.__class__")))
    (hn36 : PySem.W.specialIn K (.builtin "object.__class__") "__get__" = some (some (.builtin "getset_descriptor.__get__")))
    (htk36 : PySem.W.takesIn K (.builtin "object.__class__") = some true)
    (hmo36 : PySem.W.mroIn K C36 (.type "object") = some true)
    (ha37 : PySem.W.findIn K (.ref C37) "__class__" = some (some (.builtin "object.__class__")))
    (hn37 : PySem.W.specialIn K (.builtin "object.__class__") "__get__" = some (some (.builtin "getset_descriptor.__get__")))
    (htk37 : PySem.W.takesIn K (.builtin "object.__class__") = some true)
    (hmo37 : PySem.W.mroIn K C37 (.type "object") = some true)
    (ha38 : PySem.W.findIn K (.ref C38) "__class__" = some (some (.builtin "object.__class__")))
    (hn38 : PySem.W.specialIn K (.builtin "object.__class__") "__get__" = some (some (.builtin "getset_descriptor.__get__")))
    (htk38 : PySem.W.takesIn K (.builtin "object.__class__") = some true)
    (hmo38 : PySem.W.mroIn K C38 (.type "object") = some true)
    (ha39 : PySem.W.findIn K (.ref C39) "__class__" = some (some (.builtin "object.__class__")))
    (hn39 : PySem.W.specialIn K (.builtin "object.__class__") "__get__" = some (some (.builtin "getset_descriptor.__get__")))
    (htk39 : PySem.W.takesIn K (.builtin "object.__class__") = some true)
    (hmo39 : PySem.W.mroIn K C39 (.type "object") = some true)
    (ha100 : PySem.W.findIn K (.ref C100) "__class__" = some (some (.builtin "object.__class__")))
    (hn100 : PySem.W.specialIn K (.builtin "object.__class__") "__get__" = some (some (.builtin "getset_descriptor.__get__")))
    (htk100 : PySem.W.takesIn K (.builtin "object.__class__") = some true)
    (hmo100 : PySem.W.mroIn K C100 (.type "object") = some true)
    (ha101 : PySem.W.findIn K (.ref C101) "__class__" = some (some (.builtin "object.__class__")))
    (hn101 : PySem.W.specialIn K (.builtin "object.__class__") "__get__" = some (some (.builtin "getset_descriptor.__get__")))
    (htk101 : PySem.W.takesIn K (.builtin "object.__class__") = some true)
    (hmo101 : PySem.W.mroIn K C101 (.type "object") = some true)
    (zn_ValueError : PySem.W.nsIn K mainGlobals "ValueError" = some none)
    (zn_LookupError : PySem.W.nsIn K mainGlobals "LookupError" = some none)
    (zn_TypeError : PySem.W.nsIn K mainGlobals "TypeError" = some none)
    (zn_ArithmeticError : PySem.W.nsIn K mainGlobals "ArithmeticError" = some none)
    (zn_RuntimeError : PySem.W.nsIn K mainGlobals "RuntimeError" = some none)
    (gf_kit12 : kitAll K [C30, C31, C32, C33, C34, C35, C36, C37, C38, C39, C100, C101] = true)
    (gf_kit5 : kitFive K [C30, C31, C32, C33, C34, C35, C36, C37, C38, C39, C100, C101] = true)
    (gf_exm12 : exmAll K [C30, C31, C32, C33, C34, C35, C36, C37, C38, C39, C100, C101] C40 = true)
    (aCW : PySem.W.nsIn K mainGlobals "WebError" = some (some (.ref CW)))
    (rdW : PySem.W.readsIn K CW (.type "type") = true)
    (gaW : PySem.W.specialIn K (.ref CW) "__getattribute__" = some (some (.builtin "type.__getattribute__")))
    (inW : PySem.W.findCls K (.ref CW) (.type "type") "__init__" = some (.val (.builtin "Exception.__init__")))
    (a1 : PySem.W.findIn K (.ref C30) "__init__" = some (some (.ref f1)))
    (i1 : PySem.W.typeIn K (.ref f1) = some (.type "function"))
    (F1 : Fun K "__init__" "BadFormula.__init__" s_BadFormula___init__ f1 fd1)
    (a2 : PySem.W.findIn K (.ref C31) "__init__" = some (some (.ref f2)))
    (i2 : PySem.W.typeIn K (.ref f2) = some (.type "function"))
    (F2 : Fun K "__init__" "BadText.__init__" s_BadText___init__ f2 fd2)
    (a3 : PySem.W.findIn K (.ref C32) "__init__" = some (some (.ref f3)))
    (i3 : PySem.W.typeIn K (.ref f3) = some (.type "function"))
    (F3 : Fun K "__init__" "BadWeb.__init__" s_BadWeb___init__ f3 fd3)
    (a4 : PySem.W.findIn K (.ref C33) "__init__" = some (some (.ref f4)))
    (i4 : PySem.W.typeIn K (.ref f4) = some (.type "function"))
    (F4 : Fun K "__init__" "BadRules.__init__" s_BadRules___init__ f4 fd4)
    (a5 : PySem.W.findIn K (.ref C34) "__init__" = some (some (.ref f5)))
    (i5 : PySem.W.typeIn K (.ref f5) = some (.type "function"))
    (F5 : Fun K "__init__" "UnknownMark.__init__" s_UnknownMark___init__ f5 fd5)
    (a6 : PySem.W.findIn K (.ref C35) "__init__" = some (some (.ref f6)))
    (i6 : PySem.W.typeIn K (.ref f6) = some (.type "function"))
    (F6 : Fun K "__init__" "Clash.__init__" s_Clash___init__ f6 fd6)
    (a7 : PySem.W.findIn K (.ref C36) "__init__" = some (some (.ref f7)))
    (i7 : PySem.W.typeIn K (.ref f7) = some (.type "function"))
    (F7 : Fun K "__init__" "Apart.__init__" s_Apart___init__ f7 fd7)
    (a8 : PySem.W.findIn K (.ref C37) "__init__" = some (some (.ref f8)))
    (i8 : PySem.W.typeIn K (.ref f8) = some (.type "function"))
    (F8 : Fun K "__init__" "BadBook.__init__" s_BadBook___init__ f8 fd8)
    (a9 : PySem.W.findIn K (.ref C38) "__init__" = some (some (.ref f9)))
    (i9 : PySem.W.typeIn K (.ref f9) = some (.type "function"))
    (F9 : Fun K "__init__" "UnknownPlayer.__init__" s_UnknownPlayer___init__ f9 fd9)
    (a10 : PySem.W.findIn K (.ref C39) "__init__" = some (some (.ref f10)))
    (i10 : PySem.W.typeIn K (.ref f10) = some (.type "function"))
    (F10 : Fun K "__init__" "NoPlayer.__init__" s_NoPlayer___init__ f10 fd10)
    (a11 : PySem.W.nsIn K mainGlobals "_law_deck" = some (some (.ref f11)))
    (F11 : Fun K "_law_deck" "_law_deck" s_law_deck f11 fd11)
    (a12 : PySem.W.nsIn K mainGlobals "_law_draw" = some (some (.ref f12)))
    (F12 : Fun K "_law_draw" "_law_draw" s_law_draw f12 fd12)
    (a13 : PySem.W.nsIn K mainGlobals "_law_pick" = some (some (.ref f13)))
    (F13 : Fun K "_law_pick" "_law_pick" s_law_pick f13 fd13)
    (a14 : PySem.W.nsIn K mainGlobals "_law_value" = some (some (.ref f14)))
    (F14 : Fun K "_law_value" "_law_value" s_law_value f14 fd14)
    (a15 : PySem.W.nsIn K mainGlobals "_law_made" = some (some (.ref f15)))
    (F15 : Fun K "_law_made" "_law_made" s_law_made f15 fd15)
    (a16 : PySem.W.nsIn K mainGlobals "_law_named" = some (some (.ref f16)))
    (F16 : Fun K "_law_named" "_law_named" s_law_named f16 fd16)
    (a17 : PySem.W.nsIn K mainGlobals "_law_told" = some (some (.ref f17)))
    (F17 : Fun K "_law_told" "_law_told" s_law_told f17 fd17)
    (a18 : PySem.W.nsIn K mainGlobals "_law_is_of" = some (some (.ref f18)))
    (F18 : Fun K "_law_is_of" "_law_is_of" s_law_is_of f18 fd18)
    (a19 : PySem.W.nsIn K mainGlobals "_law_raised" = some (some (.ref f19)))
    (F19 : Fun K "_law_raised" "_law_raised" s_law_raised f19 fd19)
    (a20 : PySem.W.nsIn K mainGlobals "_law_raised_too" = some (some (.ref f20)))
    (F20 : Fun K "_law_raised_too" "_law_raised_too" s_law_raised_too f20 fd20)
    (a21 : PySem.W.nsIn K mainGlobals "_law_caught" = some (some (.ref f21)))
    (F21 : Fun K "_law_caught" "_law_caught" s_law_caught f21 fd21)
    (a22 : PySem.W.nsIn K mainGlobals "law" = some (some (.ref f22)))
    (F22 : Fun K "law" "law" s_law f22 fd22) :
    FnG P w K mg base 24 fa (spTop K) := by
  let cl : Nat → Addr := fun i => if i = 30 then C30 else if i = 31 then C31 else if i = 32 then C32 else if i = 33 then C33 else if i = 34 then C34 else if i = 35 then C35 else if i = 36 then C36 else if i = 37 then C37 else if i = 38 then C38 else if i = 39 then C39 else if i = 100 then C100 else if i = 101 then C101 else C40
  have B : Blt mg := ⟨PySem.W.mg_none_of X G z0, PySem.W.mg_none_of X G z1, PySem.W.mg_none_of X G z2, PySem.W.mg_none_of X G z3, PySem.W.mg_none_of X G z4, PySem.W.mg_none_of X G z5, PySem.W.mg_none_of X G z6, PySem.W.mg_none_of X G z7, PySem.W.mg_none_of X G z8, PySem.W.mg_none_of X G z9, PySem.W.mg_none_of X G z10, PySem.W.mg_none_of X G z11, PySem.W.mg_none_of X G z12, PySem.W.mg_none_of X G z13, PySem.W.mg_none_of X G z14, PySem.W.mg_none_of X G z15, PySem.W.mg_none_of X G z16, PySem.W.mg_none_of X G z17, PySem.W.mg_none_of X G z18, PySem.W.mg_none_of X G z19, PySem.W.mg_none_of X G z20⟩
  have ec30 : ErC K C30 "value" := ⟨⟨⟨_, _, _, _, _, _, _, _, _, _, _, _, _, _, _, xL30, rfl⟩, sa30, eC30, tC30, kc30⟩, ⟨ga30, gg30, eC30, hd30⟩, no30⟩
  have ec31 : ErC K C31 "place" := ⟨⟨⟨_, _, _, _, _, _, _, _, _, _, _, _, _, _, _, xL31, rfl⟩, sa31, eC31, tC31, kc31⟩, ⟨ga31, gg31, eC31, hd31⟩, no31⟩
  have ec32 : ErC K C32 "part" := ⟨⟨⟨_, _, _, _, _, _, _, _, _, _, _, _, _, _, _, xL32, rfl⟩, sa32, eC32, tC32, kc32⟩, ⟨ga32, gg32, eC32, hd32⟩, no32⟩
  have ec33 : ErC K C33 "part" := ⟨⟨⟨_, _, _, _, _, _, _, _, _, _, _, _, _, _, _, xL33, rfl⟩, sa33, eC33, tC33, kc33⟩, ⟨ga33, gg33, eC33, hd33⟩, no33⟩
  have ec34 : ErC K C34 "mark" := ⟨⟨⟨_, _, _, _, _, _, _, _, _, _, _, _, _, _, _, xL34, rfl⟩, sa34, eC34, tC34, kc34⟩, ⟨ga34, gg34, eC34, hd34⟩, no34⟩
  have ec35 : ErC K C35 "mark" := ⟨⟨⟨_, _, _, _, _, _, _, _, _, _, _, _, _, _, _, xL35, rfl⟩, sa35, eC35, tC35, kc35⟩, ⟨ga35, gg35, eC35, hd35⟩, no35⟩
  have ec36 : ErC K C36 "web" := ⟨⟨⟨_, _, _, _, _, _, _, _, _, _, _, _, _, _, _, xL36, rfl⟩, sa36, eC36, tC36, kc36⟩, ⟨ga36, gg36, eC36, hd36⟩, no36⟩
  have ec37 : ErC K C37 "part" := ⟨⟨⟨_, _, _, _, _, _, _, _, _, _, _, _, _, _, _, xL37, rfl⟩, sa37, eC37, tC37, kc37⟩, ⟨ga37, gg37, eC37, hd37⟩, no37⟩
  have ec38 : ErC K C38 "name" := ⟨⟨⟨_, _, _, _, _, _, _, _, _, _, _, _, _, _, _, xL38, rfl⟩, sa38, eC38, tC38, kc38⟩, ⟨ga38, gg38, eC38, hd38⟩, no38⟩
  have ec39 : ErC K C39 "wish" := ⟨⟨⟨_, _, _, _, _, _, _, _, _, _, _, _, _, _, _, xL39, rfl⟩, sa39, eC39, tC39, kc39⟩, ⟨ga39, gg39, eC39, hd39⟩, no39⟩
  have bw : BaseX K CW := ⟨⟨rdW, gaW⟩, inW⟩
  have gw := PySem.W.mg_of X G aCW
  have Z : ZZ K w mg cl := ⟨PySem.W.mg_of X G aC30, ec30, PySem.W.mg_of X G aC31, ec31, PySem.W.mg_of X G aC32, ec32, PySem.W.mg_of X G aC33, ec33, PySem.W.mg_of X G aC34, ec34, PySem.W.mg_of X G aC35, ec35, PySem.W.mg_of X G aC36, ec36, PySem.W.mg_of X G aC37, ec37, PySem.W.mg_of X G aC38, ec38, PySem.W.mg_of X G aC39, ec39, PySem.W.mg_of X G aC100, ⟨PySem.W.mg_of X G aC100, e0100, kc100, eC100, tC100⟩, PySem.W.mg_of X G aC101, ⟨PySem.W.mg_of X G aC101, e0101, kc101, eC101, tC101⟩, PySem.W.mg_of X G aC40, ik30_40, ik31_40, ik32_40, ik33_40, ik34_40, ik35_40, ik36_40, ik37_40, ik38_40, ik39_40, ik100_40, ik101_40, ⟨ga30, gg30, eC30, hd30, ha30, hn30, htk30, hmo30⟩, ⟨ga31, gg31, eC31, hd31, ha31, hn31, htk31, hmo31⟩, ⟨ga32, gg32, eC32, hd32, ha32, hn32, htk32, hmo32⟩, ⟨ga33, gg33, eC33, hd33, ha33, hn33, htk33, hmo33⟩, ⟨ga34, gg34, eC34, hd34, ha34, hn34, htk34, hmo34⟩, ⟨ga35, gg35, eC35, hd35, ha35, hn35, htk35, hmo35⟩, ⟨ga36, gg36, eC36, hd36, ha36, hn36, htk36, hmo36⟩, ⟨ga37, gg37, eC37, hd37, ha37, hn37, htk37, hmo37⟩, ⟨ga38, gg38, eC38, hd38, ha38, hn38, htk38, hmo38⟩, ⟨ga39, gg39, eC39, hd39, ha39, hn39, htk39, hmo39⟩, ⟨ga100, gg100, eC100, hd100, ha100, hn100, htk100, hmo100⟩, ⟨ga101, gg101, eC101, hd101, ha101, hn101, htk101, hmo101⟩, PySem.W.mg_none_of X G zn_ValueError, PySem.W.mg_none_of X G zn_LookupError, PySem.W.mg_none_of X G zn_TypeError, PySem.W.mg_none_of X G zn_ArithmeticError, PySem.W.mg_none_of X G zn_RuntimeError, gf_kit12, gf_kit5, gf_exm12⟩
  have q_e_BadFormula := e_BadFormula (P := P) (base := base) (cl := cl) a1 i1 bw gw Z F1
  have q_e_BadText := e_BadText (P := P) (base := base) (cl := cl) a2 i2 bw gw Z F2
  have q_e_BadWeb := e_BadWeb (P := P) (base := base) (cl := cl) a3 i3 bw gw Z F3
  have q_e_BadRules := e_BadRules (P := P) (base := base) (cl := cl) a4 i4 bw gw Z F4
  have q_e_UnknownMark := e_UnknownMark (P := P) (base := base) (cl := cl) a5 i5 bw gw Z F5
  have q_e_Clash := e_Clash (P := P) (base := base) (cl := cl) a6 i6 bw gw Z F6
  have q_e_Apart := e_Apart (P := P) (base := base) (cl := cl) a7 i7 bw gw Z F7
  have q_e_BadBook := e_BadBook (P := P) (base := base) (cl := cl) a8 i8 bw gw Z F8
  have q_e_UnknownPlayer := e_UnknownPlayer (P := P) (base := base) (cl := cl) a9 i9 bw gw Z F9
  have q_e_NoPlayer := e_NoPlayer (P := P) (base := base) (cl := cl) a10 i10 bw gw Z F10
  have q_c_law_deck := c_law_deck (P := P) (base := base) (cl := cl) (PySem.W.mg_of X G a11) B Z F11 
  have q_c_law_draw := c_law_draw (P := P) (base := base) (cl := cl) (PySem.W.mg_of X G a12) B Z F12 
  have q_c_law_pick := c_law_pick (P := P) (base := base) (cl := cl) (PySem.W.mg_of X G a13) B Z F13 q_c_law_draw
  have q_c_law_value := c_law_value (P := P) (base := base) (cl := cl) (PySem.W.mg_of X G a14) B Z F14 q_c_law_draw q_c_law_pick
  have q_c_law_made := c_law_made (P := P) (base := base) (cl := cl) (PySem.W.mg_of X G a15) B Z F15 q_e_BadFormula q_e_BadText q_e_BadWeb q_e_BadRules q_e_UnknownMark q_e_Clash q_e_Apart q_e_BadBook q_e_UnknownPlayer q_e_NoPlayer
  have q_c_law_named := c_law_named (P := P) (base := base) (cl := cl) (PySem.W.mg_of X G a16) B Z F16 q_e_BadFormula q_e_BadText q_e_BadWeb q_e_BadRules q_e_UnknownMark q_e_Clash q_e_Apart q_e_BadBook q_e_UnknownPlayer q_e_NoPlayer
  have q_c_law_told := c_law_told (P := P) (base := base) (cl := cl) (PySem.W.mg_of X G a17) B Z F17 
  have q_cs_law_told := cs_law_told (P := P) (base := base) (cl := cl) (PySem.W.mg_of X G a17) B Z F17 
  have q_c_law_is_of := c_law_is_of (P := P) (base := base) (cl := cl) (PySem.W.mg_of X G a18) B Z F18 
  have q_cs_law_is_of := cs_law_is_of (P := P) (base := base) (cl := cl) (PySem.W.mg_of X G a18) B Z F18 
  have q_c_law_raised := c_law_raised (P := P) (base := base) (cl := cl) (PySem.W.mg_of X G a19) B Z F19 q_e_BadFormula q_e_BadText q_e_BadWeb q_e_BadRules q_e_UnknownMark q_e_Clash
  have q_c_law_raised_too := c_law_raised_too (P := P) (base := base) (cl := cl) (PySem.W.mg_of X G a20) B Z F20 q_e_Apart q_e_BadBook q_e_UnknownPlayer q_e_NoPlayer
  have q_c_law_caught := c_law_caught (P := P) (base := base) (cl := cl) (PySem.W.mg_of X G a21) B Z F21 q_c_law_raised q_c_law_raised_too q_cs_law_is_of q_cs_law_told
  have q_c_law := c_law (P := P) (base := base) (cl := cl) (PySem.W.mg_of X G a22) B Z F22 q_c_law_deck (q_c_law_value 20) q_c_law_caught q_c_law_made q_c_law_named q_c_law_told q_c_law_is_of
  obtain ⟨f, hf, hm, _⟩ := q_c_law.ex
  have e := hfa.symm.trans hm
  cases e
  exact fun A outer s H us vs Q hg hr e0 r hsp => hf A outer s H us vs Q hg hr e0 r (top_sp hsp)
end N
set_option Elab.async false
set_option linter.all false
set_option maxRecDepth 100000
set_option maxHeartbeats 0
namespace N
open PySem PySem.Spec PyProof.Rows L2
theorem facts {P : Program} {w : World} {K : Fg} {h base : Heap} {mg : Str → Option Value} {fa : Addr} (X : K.In h) (G : h.Ns mainGlobals mg) (hfa : mg "law" = some (.ref fa)) (c : SaysT tsts dTs dcs w K) :
    FnG P w K mg base 24 fa (spTop K) := by
  have ht0 := c.test 0 (t := tst0) rfl
  simp only [tst0, Bool.and_eq_true, decide_eq_true_eq] at ht0
  obtain ⟨z0, z1, z2, z3, z4, z5, z6, z7⟩ := ht0
  have ht1 := c.test 1 (t := tst1) rfl
  simp only [tst1, Bool.and_eq_true, decide_eq_true_eq] at ht1
  obtain ⟨z8, z9, z10, z11, z12, z13, z14, z15⟩ := ht1
  have ht2 := c.test 2 (t := tst2) rfl
  simp only [tst2, Bool.and_eq_true, decide_eq_true_eq] at ht2
  obtain ⟨z16, z17, z18, z19, z20, aC30, xL30, sa30⟩ := ht2
  obtain ⟨_, _, _, _, _, _, _, _, _, _, _, _, _, _, xL30⟩ := isExc_ok xL30
  have ht3 := c.test 3 (t := tst3) rfl
  simp only [tst3, Bool.and_eq_true, decide_eq_true_eq] at ht3
  obtain ⟨eC30, tC30, kc30, ga30, gg30, hd30, no30, aC31⟩ := ht3
  have ht4 := c.test 4 (t := tst4) rfl
  simp only [tst4, Bool.and_eq_true, decide_eq_true_eq] at ht4
  obtain ⟨xL31, sa31, eC31, tC31, kc31, ga31, gg31, hd31⟩ := ht4
  obtain ⟨_, _, _, _, _, _, _, _, _, _, _, _, _, _, xL31⟩ := isExc_ok xL31
  have ht5 := c.test 5 (t := tst5) rfl
  simp only [tst5, Bool.and_eq_true, decide_eq_true_eq] at ht5
  obtain ⟨no31, aC32, xL32, sa32, eC32, tC32, kc32, ga32⟩ := ht5
  obtain ⟨_, _, _, _, _, _, _, _, _, _, _, _, _, _, xL32⟩ := isExc_ok xL32
  have ht6 := c.test 6 (t := tst6) rfl
  simp only [tst6, Bool.and_eq_true, decide_eq_true_eq] at ht6
  obtain ⟨gg32, hd32, no32, aC33, xL33, sa33, eC33, tC33⟩ := ht6
  obtain ⟨_, _, _, _, _, _, _, _, _, _, _, _, _, _, xL33⟩ := isExc_ok xL33
  have ht7 := c.test 7 (t := tst7) rfl
  simp only [tst7, Bool.and_eq_true, decide_eq_true_eq] at ht7
  obtain ⟨kc33, ga33, gg33, hd33, no33, aC34, xL34, sa34⟩ := ht7
  obtain ⟨_, _, _, _, _, _, _, _, _, _, _, _, _, _, xL34⟩ := isExc_ok xL34
  have ht8 := c.test 8 (t := tst8) rfl
  simp only [tst8, Bool.and_eq_true, decide_eq_true_eq] at ht8
  obtain ⟨eC34, tC34, kc34, ga34, gg34, hd34, no34, aC35⟩ := ht8
  have ht9 := c.test 9 (t := tst9) rfl
  simp only [tst9, Bool.and_eq_true, decide_eq_true_eq] at ht9
  obtain ⟨xL35, sa35, eC35, tC35, kc35, ga35, gg35, hd35⟩ := ht9
  obtain ⟨_, _, _, _, _, _, _, _, _, _, _, _, _, _, xL35⟩ := isExc_ok xL35
  have ht10 := c.test 10 (t := tst10) rfl
  simp only [tst10, Bool.and_eq_true, decide_eq_true_eq] at ht10
  obtain ⟨no35, aC36, xL36, sa36, eC36, tC36, kc36, ga36⟩ := ht10
  obtain ⟨_, _, _, _, _, _, _, _, _, _, _, _, _, _, xL36⟩ := isExc_ok xL36
  have ht11 := c.test 11 (t := tst11) rfl
  simp only [tst11, Bool.and_eq_true, decide_eq_true_eq] at ht11
  obtain ⟨gg36, hd36, no36, aC37, xL37, sa37, eC37, tC37⟩ := ht11
  obtain ⟨_, _, _, _, _, _, _, _, _, _, _, _, _, _, xL37⟩ := isExc_ok xL37
  have ht12 := c.test 12 (t := tst12) rfl
  simp only [tst12, Bool.and_eq_true, decide_eq_true_eq] at ht12
  obtain ⟨kc37, ga37, gg37, hd37, no37, aC38, xL38, sa38⟩ := ht12
  obtain ⟨_, _, _, _, _, _, _, _, _, _, _, _, _, _, xL38⟩ := isExc_ok xL38
  have ht13 := c.test 13 (t := tst13) rfl
  simp only [tst13, Bool.and_eq_true, decide_eq_true_eq] at ht13
  obtain ⟨eC38, tC38, kc38, ga38, gg38, hd38, no38, aC39⟩ := ht13
  have ht14 := c.test 14 (t := tst14) rfl
  simp only [tst14, Bool.and_eq_true, decide_eq_true_eq] at ht14
  obtain ⟨xL39, sa39, eC39, tC39, kc39, ga39, gg39, hd39⟩ := ht14
  obtain ⟨_, _, _, _, _, _, _, _, _, _, _, _, _, _, xL39⟩ := isExc_ok xL39
  have ht15 := c.test 15 (t := tst15) rfl
  simp only [tst15, Bool.and_eq_true, decide_eq_true_eq] at ht15
  obtain ⟨no39, aC100, e0100, kc100, eC100, tC100, ga100, gg100⟩ := ht15
  have ht16 := c.test 16 (t := tst16) rfl
  simp only [tst16, Bool.and_eq_true, decide_eq_true_eq] at ht16
  obtain ⟨hd100, aC101, e0101, kc101, eC101, tC101, ga101, gg101⟩ := ht16
  have ht17 := c.test 17 (t := tst17) rfl
  simp only [tst17, Bool.and_eq_true, decide_eq_true_eq] at ht17
  obtain ⟨hd101, aC40, ik30_40, ik31_40, ik32_40, ik33_40, ik34_40, ik35_40⟩ := ht17
  have ht18 := c.test 18 (t := tst18) rfl
  simp only [tst18, Bool.and_eq_true, decide_eq_true_eq] at ht18
  obtain ⟨ik36_40, ik37_40, ik38_40, ik39_40, ik100_40, ik101_40, ha30, hn30⟩ := ht18
  have ht19 := c.test 19 (t := tst19) rfl
  simp only [tst19, Bool.and_eq_true, decide_eq_true_eq] at ht19
  obtain ⟨htk30, hmo30, ha31, hn31, htk31, hmo31, ha32, hn32⟩ := ht19
  have ht20 := c.test 20 (t := tst20) rfl
  simp only [tst20, Bool.and_eq_true, decide_eq_true_eq] at ht20
  obtain ⟨htk32, hmo32, ha33, hn33, htk33, hmo33, ha34, hn34⟩ := ht20
  have ht21 := c.test 21 (t := tst21) rfl
  simp only [tst21, Bool.and_eq_true, decide_eq_true_eq] at ht21
  obtain ⟨htk34, hmo34, ha35, hn35, htk35, hmo35, ha36, hn36⟩ := ht21
  have ht22 := c.test 22 (t := tst22) rfl
  simp only [tst22, Bool.and_eq_true, decide_eq_true_eq] at ht22
  obtain ⟨htk36, hmo36, ha37, hn37, htk37, hmo37, ha38, hn38⟩ := ht22
  have ht23 := c.test 23 (t := tst23) rfl
  simp only [tst23, Bool.and_eq_true, decide_eq_true_eq] at ht23
  obtain ⟨htk38, hmo38, ha39, hn39, htk39, hmo39, ha100, hn100⟩ := ht23
  have ht24 := c.test 24 (t := tst24) rfl
  simp only [tst24, Bool.and_eq_true, decide_eq_true_eq] at ht24
  obtain ⟨htk100, hmo100, ha101, hn101, htk101, hmo101, zn_ValueError, zn_LookupError⟩ := ht24
  have ht25 := c.test 25 (t := tst25) rfl
  simp only [tst25, Bool.and_eq_true, decide_eq_true_eq] at ht25
  obtain ⟨zn_TypeError, zn_ArithmeticError, zn_RuntimeError, gf_kit12, gf_kit5, gf_exm12, aCW, rdW⟩ := ht25
  have ht26 := c.test 26 (t := tst26) rfl
  simp only [tst26, Bool.and_eq_true, decide_eq_true_eq] at ht26
  obtain ⟨gaW, inW, a1, i1, a2, i2, a3, i3⟩ := ht26
  have inW := isVal_ok inW
  have ht27 := c.test 27 (t := tst27) rfl
  simp only [tst27, Bool.and_eq_true, decide_eq_true_eq] at ht27
  obtain ⟨a4, i4, a5, i5, a6, i6, a7, i7⟩ := ht27
  have ht28 := c.test 28 (t := tst28) rfl
  simp only [tst28, Bool.and_eq_true, decide_eq_true_eq] at ht28
  obtain ⟨a8, i8, a9, i9, a10, i10, a11, a12⟩ := ht28
  have ht29 := c.test 29 (t := tst29) rfl
  simp only [tst29, Bool.and_eq_true, decide_eq_true_eq] at ht29
  obtain ⟨a13, a14, a15, a16, a17, a18, a19, a20⟩ := ht29
  have ht30 := c.test 30 (t := tst30) rfl
  simp only [tst30, Bool.and_eq_true, decide_eq_true_eq] at ht30
  obtain ⟨a21, a22⟩ := ht30
  obtain ⟨_, F1⟩ := c.fun_ 0 (d := dT1) rfl rfl
  obtain ⟨_, F2⟩ := c.fun_ 1 (d := dT2) rfl rfl
  obtain ⟨_, F3⟩ := c.fun_ 2 (d := dT3) rfl rfl
  obtain ⟨_, F4⟩ := c.fun_ 3 (d := dT4) rfl rfl
  obtain ⟨_, F5⟩ := c.fun_ 4 (d := dT5) rfl rfl
  obtain ⟨_, F6⟩ := c.fun_ 5 (d := dT6) rfl rfl
  obtain ⟨_, F7⟩ := c.fun_ 6 (d := dT7) rfl rfl
  obtain ⟨_, F8⟩ := c.fun_ 7 (d := dT8) rfl rfl
  obtain ⟨_, F9⟩ := c.fun_ 8 (d := dT9) rfl rfl
  obtain ⟨_, F10⟩ := c.fun_ 9 (d := dT10) rfl rfl
  obtain ⟨_, F11⟩ := c.fun_ 10 (d := dT11) rfl rfl
  obtain ⟨_, F12⟩ := c.fun_ 11 (d := dT12) rfl rfl
  obtain ⟨_, F13⟩ := c.fun_ 12 (d := dT13) rfl rfl
  obtain ⟨_, F14⟩ := c.fun_ 13 (d := dT14) rfl rfl
  obtain ⟨_, F15⟩ := c.fun_ 14 (d := dT15) rfl rfl
  obtain ⟨_, F16⟩ := c.fun_ 15 (d := dT16) rfl rfl
  obtain ⟨_, F17⟩ := c.fun_ 16 (d := dT17) rfl rfl
  obtain ⟨_, F18⟩ := c.fun_ 17 (d := dT18) rfl rfl
  obtain ⟨_, F19⟩ := c.fun_ 18 (d := dT19) rfl rfl
  obtain ⟨_, F20⟩ := c.fun_ 19 (d := dT20) rfl rfl
  obtain ⟨_, F21⟩ := c.fun_ 20 (d := dT21) rfl rfl
  obtain ⟨_, F22⟩ := c.fun_ 21 (d := dT22) rfl rfl
  exact all_mk X G hfa (rfl : w = w) z0 z1 z2 z3 z4 z5 z6 z7 z8 z9 z10 z11 z12 z13 z14 z15 z16 z17 z18 z19 z20 aC30 xL30 sa30 eC30 tC30 kc30 ga30 gg30 hd30 no30 aC31 xL31 sa31 eC31 tC31 kc31 ga31 gg31 hd31 no31 aC32 xL32 sa32 eC32 tC32 kc32 ga32 gg32 hd32 no32 aC33 xL33 sa33 eC33 tC33 kc33 ga33 gg33 hd33 no33 aC34 xL34 sa34 eC34 tC34 kc34 ga34 gg34 hd34 no34 aC35 xL35 sa35 eC35 tC35 kc35 ga35 gg35 hd35 no35 aC36 xL36 sa36 eC36 tC36 kc36 ga36 gg36 hd36 no36 aC37 xL37 sa37 eC37 tC37 kc37 ga37 gg37 hd37 no37 aC38 xL38 sa38 eC38 tC38 kc38 ga38 gg38 hd38 no38 aC39 xL39 sa39 eC39 tC39 kc39 ga39 gg39 hd39 no39 aC100 e0100 kc100 eC100 tC100 ga100 gg100 hd100 aC101 e0101 kc101 eC101 tC101 ga101 gg101 hd101 aC40 ik30_40 ik31_40 ik32_40 ik33_40 ik34_40 ik35_40 ik36_40 ik37_40 ik38_40 ik39_40 ik100_40 ik101_40 ha30 hn30 htk30 hmo30 ha31 hn31 htk31 hmo31 ha32 hn32 htk32 hmo32 ha33 hn33 htk33 hmo33 ha34 hn34 htk34 hmo34 ha35 hn35 htk35 hmo35 ha36 hn36 htk36 hmo36 ha37 hn37 htk37 hmo37 ha38 hn38 htk38 hmo38 ha39 hn39 htk39 hmo39 ha100 hn100 htk100 hmo100 ha101 hn101 htk101 hmo101 zn_ValueError zn_LookupError zn_TypeError zn_ArithmeticError zn_RuntimeError gf_kit12 gf_kit5 gf_exm12 aCW rdW gaW inW a1 i1 F1 a2 i2 F2 a3 i3 F3 a4 i4 F4 a5 i5 F5 a6 i6 F6 a7 i7 F7 a8 i8 F8 a9 i9 F9 a10 i10 F10 a11 F11 a12 F12 a13 F13 a14 F14 a15 F15 a16 F16 a17 F17 a18 F18 a19 F19 a20 F20 a21 F21 a22 F22
end N
open PySem PySem.W PySem.Calls PyProof.Rows
set_option maxRecDepth 100000 in
set_option maxHeartbeats 0 in
theorem PySem.Challenge.cw_allbeneath_k01_errors_holds : PySem.Challenge.rw_allbeneath_k01_errors.Holds := by
  w_on; o_law
  refine HandSHeadRun.head_any (r := N.RW_) (q := N.qW) (H := N.hkW) (ob := N.obW) (M := 40000) (loose := N.names) (d := HandSHeadRun.topDef N.RW_.prog 26) (kwd := []) N.obW_eq (by kernel_rfl) (fun s => by kernel_rfl) N.run_W
    (by kernel_rfl) (by kernel_rfl) (by kernel_rfl) (by rfl) (by first | assumption | decide +kernel) (by decide +kernel) ⟨rfl, rfl, rfl, rfl, rfl, by decide +kernel⟩ ?hw ?hc
  case hw => w_witness2
  case hc =>
    refine N.walkT (l := PySem.Challenge.rw_allbeneath_k01_errors) (n := 63) (k := 24) (sp := N.spTop) rfl (by decide) (by kernel_rfl) ⟨rfl, by decide, by decide⟩ (fun w h Y => Y) ?F ?G
    case G => exact fun K H a ns hl _ hS => ⟨a, ns, rfl, hS, hl, fun _ => rfl⟩
    case F =>
      intro w mg fa h K KX sy G hmg0 base _ _
      have hmg : mg ("law" : PySem.Str) = some (.ref fa) := by
        have e : (HandSHeadRun.topDef N.RW_.prog 26).name = ("law" : PySem.Str) := by kernel_rfl
        rw [← e]
        exact hmg0
      exact N.facts KX G hmg sy
