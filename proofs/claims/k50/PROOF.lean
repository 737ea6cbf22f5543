import PyProof.Rows.All
import KE.KStateDown
import HandS.Words
import HandS.Head0
import HandS.Head1
import HandS.Head2
import HandS.HeadHook1
import HandS.HeadHook2
import PySem.Challenge.RW_allbeneath_k50_undone_and_made_again
import Wide.All
import OpenK.AllK
import Wide.FinOn
import HandS.ForMost
import HandS.DictComp
import HandS.FStr
import HandS.Star
import HandS.Property
import HandS.TupAny
import HandS.Codes
import HandS.More
import HandS.Conv
import HandS.Strs
import HandS.Style
import HandS.IsInst
import HandS.Defaults
import HandS.Flow
import HandS.MakeKwOnly
import HandS.SortKw
import HandS.WrittenGet
import HandS.MethStar
import KE.KOpsOwn
import KE.KCallOwn
import OpenK.KOps
import KE.DatumIndex
import PyProof.ReprRoads
import PyProof.ReprBulk
import HandS.RaiseMore
import KE.KeyNested
import PyProof.Rows.StrMeet
import KE.KEqDict
import HandS.SetFor
import PyProof.StrWalks
import PyProof.Rows.SortShellAny
import HandS.SetTxt0
import PyProof.Rows.StrMul
import HandS.TupMul
import PyProof.NeKinds
import PyProof.EqAt
import KE.GoesZip
import KE.GoesMore
import KE.GoesEnumKw
import HandS.Zip
import KE.GoesEnum
import HandS.SortInts
import HandS.TryOnly
import HandS.SlotsOwn
import PyProof.InstEq
import PyProof.P3Eq
import HandS.ClsMeth
import HandS.Exc
import HandS.ExcInit
import HandS.ExcSuper
import HandS.ExcField
import HandS.ExcIs
import HandS.WordsExc
import HandS.ExcOwn
import HandS.TupLen
import PyProof.Rows.TupTab
import HandS.SetBool
import HandS.SetKeys
import KE.KDictPairs
import HandS.Iter
import HandS.TryMany
import PyProof.ListStr
import OpenK.KMeth
import KE.KExcIs
import PyProof.DictDisplay
import HandS.OwnEq
import HandS.ListItems
import HandS.WordsDict
set_option Elab.async false
set_option linter.all false
set_option maxRecDepth 100000
set_option maxHeartbeats 2000000
namespace N
open PySem PySem.Spec PyProof.Rows L2
abbrev Fg := PySem.W.Frag
def gA (K : Fg) (x : Str) : Addr := He.ga K x
def mA (K : Fg) (c m : Str) : Addr := He.ma K (He.ga K c) m
def pF (K : Fg) (c m : Str) : Addr := match PySem.W.recIn K (mA K c m) "property" with
  | some (.ref f :: _) => f
  | _ => 0
def pR (K : Fg) (c m : Str) : List Value := match PySem.W.recIn K (mA K c m) "property" with
  | some (_ :: r) => r
  | _ => []
def isVal (K : Fg) (C : Addr) (m : Str) (u : Value) : Bool := match PySem.W.findCls K (.ref C) (.type "type") m with
  | some (.val v) => decide (v = u)
  | _ => false
def isStrG (K : Fg) (x z : Str) : Bool := match PySem.W.nsIn K mainGlobals x with
  | some (some (.str y _)) => decide (y = z)
  | _ => false
def isIntIn (K : Fg) (d : Addr) (x : Str) (i : Int) : Bool := match PySem.W.nsIn K d x with
  | some (some (.int j _)) => decide (j = i)
  | _ => false
def isExc (K : Fg) (C CW : Addr) : Bool := match K.lookup C with
  | some ⟨c, dd, .cls cd, sl⟩ => decide (c = .type "type") && (decide (cd.mro = [.ref C, .ref CW, .type "Exception", .type "BaseException", .type "object"]) && (cd.hasDict && (!cd.hasDel && (match sl.toList with
    | [_, _, _, _, some v, _] => decide (v = .builtin "Exception.__new__")
    | _ => false))))
  | _ => false
def isDic (K : Fg) (d : Addr) : Bool := match K.lookup d with
  | some ⟨c, none, .dict es _, sl⟩ => decide (c = .type "dict") && (sl.toList.isEmpty && es.toList.all fun e => match e.key with
    | .str _ _ => true
    | _ => false)
  | _ => false
def keysY (K : Fg) (d : Addr) : List (Str × Int) := match K.lookup d with
  | some ⟨_, _, .dict es _, _⟩ => es.toList.map fun e => match e.key with
    | .str x _ => (x, e.hash)
    | _ => ("", 0)
  | _ => []
structure DefT where
  at_ : Fg → Addr
  name : Str
  qual : Str
  st : Stmt
  dn : Bool
def fnY (K : Fg) (a : Addr) : He.FnW := match K.lookup a with
  | some ⟨_, _, .func fd, _⟩ => some (fd.name, fd.qualname, fd.params, fd.body, fd.scope, fd.globals, fd.closure, fd.builtins)
  | _ => none
def DefT.val (d : DefT) : He.FnW := some (d.name, d.qual, defArgs d.st, .stmts (defBody d.st), defScope d.st, mainGlobals, [], builtinsNs)
def isNon : Value → Bool
  | .none => true
  | _ => false
def nonSeq (K : Fg) (v : Value) : Bool := match v with
  | .ref T => (match K.lookup T with
    | some ⟨_, _, .seq its _, _⟩ => (match its.toList with
      | [v] => isNon v
      | _ => false)
    | _ => false)
  | _ => false
def DefT.ok (K : Fg) (d : DefT) : Bool := PySem.W.keepIn K (.ref (d.at_ K)) && (match K.lookup (d.at_ K) with
  | some ⟨_, _, .func fd, _⟩ => PySem.W.codeIn K fd.code d.qual && (match d.dn with
    | false => isNon fd.defaults
    | true => nonSeq K fd.defaults)
  | _ => false)
structure DicT where
  at_ : Fg → Addr
  keys : List Str
abbrev AlT : Type := Bool × List He.FnW × List (List (Str × Int))
def obsT (ts : List (Fg → Bool)) (fn : List DefT) (dk : List DicT) (K : Fg) : AlT := ((ts.all fun t => t K) && (fn.all fun d => d.ok K), fn.map fun d => fnY K (d.at_ K), dk.map fun d => keysY K (d.at_ K))
def valT (fn : List DefT) (dk : List DicT) (w : World) : AlT := (true, fn.map DefT.val, dk.map fun d => d.keys.map fun k => (k, PyData.keyHash w.params k))
def frNs {β : Type} : List Nat → (List Nat → β) → β
  | [], k => k []
  | x :: l, k => HandSHeadRun.frNat x fun x => frNs l fun l => k (x :: l)
theorem frNs_eq {β : Type} : ∀ (l : List Nat) (k : List Nat → β), frNs l k = k l
  | [], _ => rfl
  | x :: l, k => by
    unfold frNs
    rw [HandSHeadRun.frNat_eq, frNs_eq]
def frOb {β : Type} (o : Obj) (k : Obj → β) : β := match o with
  | ⟨c, d, dt, sl⟩ => k ⟨c, d, dt, sl⟩
theorem frOb_eq {β : Type} (o : Obj) (k : Obj → β) : frOb o k = k o := by cases o; rfl
def frFg {β : Type} : Fg → (Fg → β) → β
  | [], k => k []
  | x :: l, k => HandSHeadRun.frNat x.1 fun a => frOb x.2 fun o => frFg l fun l => k ((a, o) :: l)
theorem frFg_eq {β : Type} : ∀ (l : Fg) (k : Fg → β), frFg l k = k l
  | [], _ => rfl
  | x :: l, k => by
    unfold frFg
    rw [HandSHeadRun.frNat_eq, frOb_eq, frFg_eq]
def obsTG (ts : List (Fg → Bool)) (fn : List DefT) (dk : List DicT) (n : Nat) (g : Addr → Option Obj) : AlT := frNs (List.range n) fun as => frFg (He.frG g as) fun K => obsT ts fn dk K
theorem obsTG_eq (ts : List (Fg → Bool)) (fn : List DefT) (dk : List DicT) (n : Nat) (g : Addr → Option Obj) : obsTG ts fn dk n g = obsT ts fn dk (He.frG g (List.range n)) := by
  unfold obsTG
  rw [frNs_eq, frFg_eq]
def SaysT (ts : List (Fg → Bool)) (fn : List DefT) (dk : List DicT) (w : World) (K : Fg) : Prop := obsT ts fn dk K = valT fn dk w
def hookT (ts : List (Fg → Bool)) (fn : List DefT) (dk : List DicT) : PySem.W.Hook where
  α := AlT
  obs := fun s => obsTG ts fn dk s.heap.objs.size s.heap.get?
  val := fun w => valT fn dk w
  says := fun w h => ∃ K : Fg, K.In h ∧ SaysT ts fn dk w K
  of := fun _ _ e => ⟨_, He.frG_in, by unfold SaysT; rw [← obsTG_eq]; exact e⟩
  keeps := fun _ _ _ ⟨K, hK, c⟩ k => ⟨K, PySem.W.Frag.In.keeps hK k, c⟩
def obT (ts : List (Fg → Bool)) (fn : List DefT) (dk : List DicT) (s : PySem.W.SharedT) : AlT := obsTG ts fn dk s.n (HandSHeadRun.getT s)
theorem obT_eq {ts : List (Fg → Bool)} {fn : List DefT} {dk : List DicT} (s : PySem.W.SharedT) : obT ts fn dk s = (hookT ts fn dk).obs s.abs := by
  have e : HandSHeadRun.getT s = s.abs.heap.get? := funext (HandSHeadRun.getT_eq s)
  have e2 : s.n = s.abs.heap.objs.size := (PySem.W.absHeap_size s.tree s.n s.life).symm
  unfold obT
  rw [e, e2]
  rfl
end N
set_option Elab.async false
set_option linter.all false
set_option maxRecDepth 100000
set_option maxHeartbeats 0
namespace N
open PySem PySem.Spec PyProof.Rows L2
namespace HH
def top (i : Nat) : Stmt := PySem.Challenge.pw_allbeneath_k50_undone_and_made_again.main.body.getD i (.Pass ⟨0, 0, 0, 0⟩)
abbrev s_united : Stmt := top 20
abbrev s_merged : Stmt := top 21
abbrev s_is_atom : Stmt := top 19
abbrev s_Formula___init__ : Stmt := inClass (top 22) 0
abbrev s_as_formula : Stmt := top 23
abbrev s_Formula___str__ : Stmt := inClass (top 22) 7
abbrev s_Formula___eq__ : Stmt := inClass (top 22) 6
abbrev s_is_mark : Stmt := top 38
abbrev s_is_rule : Stmt := top 39
abbrev s_check_rows : Stmt := top 40
abbrev s_Rules___init__ : Stmt := inClass (top 42) 0
abbrev s_Rules_marks : Stmt := inClass (top 42) 1
abbrev s_Rules___getitem__ : Stmt := inClass (top 42) 2
abbrev s_BadRules___init__ : Stmt := inClass (top 5) 0
abbrev s_rows_by : Stmt := top 41
abbrev s_Rules___len__ : Stmt := inClass (top 42) 3
abbrev s_UnknownMark___init__ : Stmt := inClass (top 6) 0
abbrev s_Desk___init__ : Stmt := inClass (top 44) 0
abbrev s_Desk_rules : Stmt := inClass (top 44) 1
abbrev s_Desk___len__ : Stmt := inClass (top 44) 3
abbrev s_Desk_change_to : Stmt := inClass (top 44) 8
abbrev s_Desk___getitem__ : Stmt := inClass (top 44) 2
abbrev s_Desk_lay : Stmt := inClass (top 44) 6
abbrev s_Desk___setitem__ : Stmt := inClass (top 44) 5
abbrev s_Desk_take_out : Stmt := inClass (top 44) 7
abbrev s_Desk_undo : Stmt := inClass (top 44) 9
abbrev s_Desk_redo : Stmt := inClass (top 44) 10
abbrev s_law_deck : Stmt := top 46
abbrev s_law_draw : Stmt := top 47
abbrev s_law_pick : Stmt := top 48
abbrev s_law_formula : Stmt := top 49
abbrev s_law_tree : Stmt := top 50
abbrev s_law_form : Stmt := top 51
abbrev s_law_rows : Stmt := top 54
abbrev s_law_begun : Stmt := top 55
abbrev s_law_is_shown : Stmt := top 56
abbrev s_law_value : Stmt := top 57
abbrev s_law_is_kept : Stmt := top 58
abbrev s_law_back : Stmt := top 59
abbrev s_law_turned : Stmt := top 61
abbrev s_law_changed : Stmt := top 60
abbrev s_law_all_right : Stmt := top 63
abbrev s_law_right : Stmt := top 62
abbrev s_law_far_right : Stmt := top 64
abbrev s_law : Stmt := top 65
end HH
def tst0 (K : Fg) : Bool := decide (PySem.W.nsIn K mainGlobals "len" = some none) && (decide (PySem.W.nsIn K mainGlobals "int" = some none) && (decide (PySem.W.nsIn K mainGlobals "str" = some none) && (decide (PySem.W.nsIn K mainGlobals "range" = some none) && (decide (PySem.W.nsIn K mainGlobals "list" = some none) && (decide (PySem.W.nsIn K mainGlobals "tuple" = some none) && (decide (PySem.W.nsIn K mainGlobals "dict" = some none) && (decide (PySem.W.nsIn K mainGlobals "set" = some none))))))))
def tst1 (K : Fg) : Bool := decide (PySem.W.nsIn K mainGlobals "sorted" = some none) && (decide (PySem.W.nsIn K mainGlobals "isinstance" = some none) && (decide (PySem.W.nsIn K mainGlobals "repr" = some none) && (decide (PySem.W.nsIn K mainGlobals "max" = some none) && (decide (PySem.W.nsIn K mainGlobals "min" = some none) && (decide (PySem.W.nsIn K mainGlobals "sum" = some none) && (decide (PySem.W.nsIn K mainGlobals "all" = some none) && (decide (PySem.W.nsIn K mainGlobals "any" = some none))))))))
def tst2 (K : Fg) : Bool := decide (PySem.W.nsIn K mainGlobals "zip" = some none) && (decide (PySem.W.nsIn K mainGlobals "enumerate" = some none) && (decide (PySem.W.nsIn K mainGlobals "bool" = some none) && (decide (PySem.W.nsIn K mainGlobals "reversed" = some none) && (decide (PySem.W.nsIn K mainGlobals "type" = some none) && (isStrG K "LETTERS" "ABCDEFGHIJKLMNOPQRSTUVWXYZabcdefghijklmnopqrstuvwxyz" && (isStrG K "ATOM" "atom" && (isStrG K "NO" "no")))))))
def tst3 (K : Fg) : Bool := isStrG K "IF" "if" && (isStrG K "ALL" "all" && (decide (PySem.W.nsIn K mainGlobals "PARTS_OF" = some (some (.ref (gA K "PARTS_OF")))) && (isDic K (gA K "PARTS_OF") && (decide (((gA K "PARTS_OF") == sysModules) = false) && (isIntIn K (gA K "PARTS_OF") "atom" 1 && (isIntIn K (gA K "PARTS_OF") "no" 0 && (isIntIn K (gA K "PARTS_OF") "if" 2)))))))
def tst4 (K : Fg) : Bool := isIntIn K (gA K "PARTS_OF") "all" 1 && (isStrG K "ALL_AHEAD" "all " && (isStrG K "BETWEEN" " > " && (isIntIn K mainGlobals "MOST_MARKS" 4 && (isIntIn K mainGlobals "PAIR_PARTS" 2 && (isStrG K "CAPITALS" "ABCDEFGHIJKLMNOPQRSTUVWXYZ" && (isStrG K "ROWS" "rows" && (isStrG K "ORDER" "order")))))))
def tst5 (K : Fg) : Bool := decide (PySem.W.nsIn K mainGlobals "Formula" = some (some (.ref (gA K "Formula")))) && (decide (PySem.W.plainGet K (gA K "Formula") Str.empty = true) && (decide (PySem.W.hasDictIn K (gA K "Formula") = true) && (decide (PySem.W.plainOver K (gA K "Formula") = true) && (decide (PySem.W.findIn K (.ref (gA K "Formula")) "__setattr__" = some (some (.builtin "object.__setattr__"))) && (decide (PySem.W.makesIn K (gA K "Formula") = true) && (decide (PySem.W.keepIn K (.ref (gA K "Formula")) = true) && (decide (PySem.W.findIn K (.ref (gA K "Formula")) "kind" = some none))))))))
def tst6 (K : Fg) : Bool := decide (PySem.W.findIn K (.ref (gA K "Formula")) "parts" = some none) && (decide (PySem.W.findIn K (.ref (gA K "Formula")) "many" = some none) && (decide (PySem.W.findIn K (.ref (gA K "Formula")) "deepest" = some none) && (decide (PySem.W.findIn K (.ref (gA K "Formula")) "atoms" = some none) && (decide (PySem.W.findIn K (.ref (gA K "Formula")) "bare" = some none) && (decide (PySem.W.findIn K (.ref (gA K "Formula")) "spelled" = some none) && (decide (PySem.W.findIn K (.ref (gA K "Formula")) "alls_known" = some none) && (decide (PySem.W.findIn K (.ref (gA K "Formula")) "__class__" = some (some (.builtin "object.__class__"))))))))))
def tst7 (K : Fg) : Bool := decide (PySem.W.specialIn K (.builtin "object.__class__") "__get__" = some (some (.builtin "getset_descriptor.__get__"))) && (decide (PySem.W.takesIn K (.builtin "object.__class__") = some true) && (decide (PySem.W.mroIn K (gA K "Formula") (.type "object") = some true) && (decide (PySem.W.kitOne K (.ref (gA K "Formula")) (.ref (gA K "Formula")) = some true) && (decide (PySem.W.selfFirst K (gA K "Formula") = true) && (decide (PySem.W.kitOne K (.type "str") (.ref (gA K "Formula")) = some false) && (decide (PySem.W.findIn K (.ref (gA K "Formula")) "__ne__" = some (some (.builtin "object.__ne__"))) && (decide (PySem.W.kitOne K (.type "NoneType") (.ref (gA K "Formula")) = some false))))))))
def tst8 (K : Fg) : Bool := decide (PySem.W.kitOne K (.type "bool") (.ref (gA K "Formula")) = some false) && (decide (PySem.W.kitOne K (.type "int") (.ref (gA K "Formula")) = some false) && (decide (PySem.W.kitOne K (.type "tuple") (.ref (gA K "Formula")) = some false) && (decide (PySem.W.kitOne K (.type "list") (.ref (gA K "Formula")) = some false) && (decide (PySem.W.kitOne K (.type "dict") (.ref (gA K "Formula")) = some false) && (decide (PySem.W.nsIn K mainGlobals "Rules" = some (some (.ref (gA K "Rules")))) && (decide (PySem.W.plainGet K (gA K "Rules") Str.empty = true) && (decide (PySem.W.hasDictIn K (gA K "Rules") = true))))))))
def tst9 (K : Fg) : Bool := decide (PySem.W.plainOver K (gA K "Rules") = true) && (decide (PySem.W.findIn K (.ref (gA K "Rules")) "__setattr__" = some (some (.builtin "object.__setattr__"))) && (decide (PySem.W.makesIn K (gA K "Rules") = true) && (decide (PySem.W.keepIn K (.ref (gA K "Rules")) = true) && (decide (PySem.W.findIn K (.ref (gA K "Rules")) "rows" = some none) && (decide (PySem.W.findIn K (.ref (gA K "Rules")) "forms_by_mark" = some none) && (decide (PySem.W.findIn K (.ref (gA K "Rules")) "__class__" = some (some (.builtin "object.__class__"))) && (decide (PySem.W.specialIn K (.builtin "object.__class__") "__get__" = some (some (.builtin "getset_descriptor.__get__"))))))))))
def tst10 (K : Fg) : Bool := decide (PySem.W.takesIn K (.builtin "object.__class__") = some true) && (decide (PySem.W.mroIn K (gA K "Rules") (.type "object") = some true) && (decide (PySem.W.kitOne K (.ref (gA K "Rules")) (.ref (gA K "Rules")) = some true) && (decide (PySem.W.selfFirst K (gA K "Rules") = true) && (decide (PySem.W.kitOne K (.type "str") (.ref (gA K "Rules")) = some false) && (decide (PySem.W.nsIn K mainGlobals "Desk" = some (some (.ref (gA K "Desk")))) && (decide (PySem.W.plainGet K (gA K "Desk") Str.empty = true) && (decide (PySem.W.hasDictIn K (gA K "Desk") = true))))))))
def tst11 (K : Fg) : Bool := decide (PySem.W.plainOver K (gA K "Desk") = true) && (decide (PySem.W.findIn K (.ref (gA K "Desk")) "__setattr__" = some (some (.builtin "object.__setattr__"))) && (decide (PySem.W.makesIn K (gA K "Desk") = true) && (decide (PySem.W.keepIn K (.ref (gA K "Desk")) = true) && (decide (PySem.W.findIn K (.ref (gA K "Desk")) "rules_now" = some none) && (decide (PySem.W.findIn K (.ref (gA K "Desk")) "rules_ahead" = some none) && (decide (PySem.W.findIn K (.ref (gA K "Desk")) "rules_later" = some none) && (decide (PySem.W.findIn K (.ref (gA K "Desk")) "__class__" = some (some (.builtin "object.__class__"))))))))))
def tst12 (K : Fg) : Bool := decide (PySem.W.specialIn K (.builtin "object.__class__") "__get__" = some (some (.builtin "getset_descriptor.__get__"))) && (decide (PySem.W.takesIn K (.builtin "object.__class__") = some true) && (decide (PySem.W.mroIn K (gA K "Desk") (.type "object") = some true) && (decide (PySem.W.kitOne K (.ref (gA K "Desk")) (.ref (gA K "Desk")) = some true) && (decide (PySem.W.selfFirst K (gA K "Desk") = true) && (decide (PySem.W.kitOne K (.type "str") (.ref (gA K "Desk")) = some false) && (decide (PySem.W.noSeq K (gA K "Desk") = true) && (decide (PySem.W.nsIn K mainGlobals "BadRules" = some (some (.ref (gA K "BadRules")))))))))))
def tst13 (K : Fg) : Bool := isExc K (gA K "BadRules") (gA K "WebError") && (decide (PySem.W.findIn K (.ref (gA K "BadRules")) "__setattr__" = some (some (.builtin "object.__setattr__"))) && (decide (PySem.W.subIn K (.ref (gA K "BadRules")) (.type "BaseException") = some true) && (decide (PySem.W.typeIn K (.ref (gA K "BadRules")) = some (.type "type")) && (decide (PySem.W.keepIn K (.ref (gA K "BadRules")) = true) && (decide (PySem.W.findIn K (.ref (gA K "BadRules")) "__getattribute__" = some (some (.builtin "BaseException.__getattribute__"))) && (decide (PySem.W.findIn K (.ref (gA K "BadRules")) "__getattr__" = some none) && (decide (PySem.W.hasDictIn K (gA K "BadRules") = true))))))))
def tst14 (K : Fg) : Bool := decide (PySem.W.findIn K (.ref (gA K "BadRules")) "part" = some none) && (decide (PySem.W.nsIn K mainGlobals "UnknownMark" = some (some (.ref (gA K "UnknownMark")))) && (isExc K (gA K "UnknownMark") (gA K "WebError") && (decide (PySem.W.findIn K (.ref (gA K "UnknownMark")) "__setattr__" = some (some (.builtin "object.__setattr__"))) && (decide (PySem.W.subIn K (.ref (gA K "UnknownMark")) (.type "BaseException") = some true) && (decide (PySem.W.typeIn K (.ref (gA K "UnknownMark")) = some (.type "type")) && (decide (PySem.W.keepIn K (.ref (gA K "UnknownMark")) = true) && (decide (PySem.W.findIn K (.ref (gA K "UnknownMark")) "__getattribute__" = some (some (.builtin "BaseException.__getattribute__"))))))))))
def tst15 (K : Fg) : Bool := decide (PySem.W.findIn K (.ref (gA K "UnknownMark")) "__getattr__" = some none) && (decide (PySem.W.hasDictIn K (gA K "UnknownMark") = true) && (decide (PySem.W.findIn K (.ref (gA K "UnknownMark")) "mark" = some none) && (decide (PySem.W.nsIn K mainGlobals "NothingToUndo" = some (some (.ref (gA K "NothingToUndo")))) && (decide (PySem.W.excIn K (gA K "NothingToUndo") [.type "Exception", .type "BaseException", .type "object"] "Exception.__new__" = true) && (decide (PySem.W.keepIn K (.ref (gA K "NothingToUndo")) = true) && (decide (PySem.W.subIn K (.ref (gA K "NothingToUndo")) (.type "BaseException") = some true) && (decide (PySem.W.typeIn K (.ref (gA K "NothingToUndo")) = some (.type "type")))))))))
def tst16 (K : Fg) : Bool := decide (PySem.W.findIn K (.ref (gA K "NothingToUndo")) "__getattribute__" = some (some (.builtin "BaseException.__getattribute__"))) && (decide (PySem.W.findIn K (.ref (gA K "NothingToUndo")) "__getattr__" = some none) && (decide (PySem.W.hasDictIn K (gA K "NothingToUndo") = true) && (decide (PySem.W.nsIn K mainGlobals "NothingToRedo" = some (some (.ref (gA K "NothingToRedo")))) && (decide (PySem.W.excIn K (gA K "NothingToRedo") [.type "Exception", .type "BaseException", .type "object"] "Exception.__new__" = true) && (decide (PySem.W.keepIn K (.ref (gA K "NothingToRedo")) = true) && (decide (PySem.W.subIn K (.ref (gA K "NothingToRedo")) (.type "BaseException") = some true) && (decide (PySem.W.typeIn K (.ref (gA K "NothingToRedo")) = some (.type "type")))))))))
def tst17 (K : Fg) : Bool := decide (PySem.W.findIn K (.ref (gA K "NothingToRedo")) "__getattribute__" = some (some (.builtin "BaseException.__getattribute__"))) && (decide (PySem.W.findIn K (.ref (gA K "NothingToRedo")) "__getattr__" = some none) && (decide (PySem.W.hasDictIn K (gA K "NothingToRedo") = true) && (decide (PySem.W.nsIn K mainGlobals "WebError" = some (some (.ref (gA K "WebError")))) && (decide (PySem.W.kitOne K (.ref (gA K "BadRules")) (.ref (gA K "WebError")) = some true) && (decide (PySem.W.kitOne K (.ref (gA K "UnknownMark")) (.ref (gA K "WebError")) = some true) && (decide (PySem.W.kitOne K (.ref (gA K "NothingToUndo")) (.ref (gA K "WebError")) = some true) && (decide (PySem.W.kitOne K (.ref (gA K "NothingToRedo")) (.ref (gA K "WebError")) = some true))))))))
def tst18 (K : Fg) : Bool := decide (PySem.W.kitOne K (.ref (gA K "Rules")) (.type "tuple") = some false) && (decide (PySem.W.findIn K (.ref (gA K "BadRules")) "__class__" = some (some (.builtin "object.__class__"))) && (decide (PySem.W.specialIn K (.builtin "object.__class__") "__get__" = some (some (.builtin "getset_descriptor.__get__"))) && (decide (PySem.W.takesIn K (.builtin "object.__class__") = some true) && (decide (PySem.W.mroIn K (gA K "BadRules") (.type "object") = some true) && (decide (PySem.W.findIn K (.ref (gA K "UnknownMark")) "__class__" = some (some (.builtin "object.__class__"))) && (decide (PySem.W.specialIn K (.builtin "object.__class__") "__get__" = some (some (.builtin "getset_descriptor.__get__"))) && (decide (PySem.W.takesIn K (.builtin "object.__class__") = some true))))))))
def tst19 (K : Fg) : Bool := decide (PySem.W.mroIn K (gA K "UnknownMark") (.type "object") = some true) && (decide (PySem.W.findIn K (.ref (gA K "NothingToUndo")) "__class__" = some (some (.builtin "object.__class__"))) && (decide (PySem.W.specialIn K (.builtin "object.__class__") "__get__" = some (some (.builtin "getset_descriptor.__get__"))) && (decide (PySem.W.takesIn K (.builtin "object.__class__") = some true) && (decide (PySem.W.mroIn K (gA K "NothingToUndo") (.type "object") = some true) && (decide (PySem.W.findIn K (.ref (gA K "NothingToRedo")) "__class__" = some (some (.builtin "object.__class__"))) && (decide (PySem.W.specialIn K (.builtin "object.__class__") "__get__" = some (some (.builtin "getset_descriptor.__get__"))) && (decide (PySem.W.takesIn K (.builtin "object.__class__") = some true))))))))
def tst20 (K : Fg) : Bool := decide (PySem.W.mroIn K (gA K "NothingToRedo") (.type "object") = some true) && (decide (PySem.W.exmOne K (.ref (gA K "BadRules")) (.ref (gA K "BadRules")) = some true) && (decide (PySem.W.exmOne K (.ref (gA K "UnknownMark")) (.ref (gA K "UnknownMark")) = some true) && (decide (PySem.W.exmOne K (.ref (gA K "UnknownMark")) (.ref (gA K "BadRules")) = some false) && (decide (PySem.W.exmOne K (.ref (gA K "NothingToUndo")) (.ref (gA K "NothingToUndo")) = some true) && (decide (PySem.W.exmOne K (.ref (gA K "NothingToRedo")) (.ref (gA K "NothingToUndo")) = some false) && (decide (PySem.W.exmOne K (.ref (gA K "NothingToRedo")) (.ref (gA K "NothingToRedo")) = some true) && (decide (PySem.W.nsIn K mainGlobals "WebError" = some (some (.ref (gA K "WebError")))))))))))
def tst21 (K : Fg) : Bool := decide (PySem.W.readsIn K (gA K "WebError") (.type "type") = true) && (decide (PySem.W.specialIn K (.ref (gA K "WebError")) "__getattribute__" = some (some (.builtin "type.__getattribute__"))) && (isVal K (gA K "WebError") "__init__" (.builtin "Exception.__init__") && (decide (PySem.W.nsIn K mainGlobals "united" = some (some (.ref (gA K "united")))) && (decide (PySem.W.nsIn K mainGlobals "merged" = some (some (.ref (gA K "merged")))) && (decide (PySem.W.nsIn K mainGlobals "is_atom" = some (some (.ref (gA K "is_atom")))) && (decide (PySem.W.findIn K (.ref (gA K "Formula")) "__init__" = some (some (.ref (mA K "Formula" "__init__")))) && (decide (PySem.W.isFn K (.ref (mA K "Formula" "__init__")) = true))))))))
def tst22 (K : Fg) : Bool := decide (PySem.W.keepIn K (.ref (mA K "Formula" "__init__")) = true) && (decide (PySem.W.nsIn K mainGlobals "as_formula" = some (some (.ref (gA K "as_formula")))) && (decide (PySem.W.findIn K (.ref (gA K "Formula")) "__str__" = some (some (.ref (mA K "Formula" "__str__")))) && (decide (PySem.W.isFn K (.ref (mA K "Formula" "__str__")) = true) && (decide (PySem.W.keepIn K (.ref (mA K "Formula" "__str__")) = true) && (decide (PySem.W.findIn K (.ref (gA K "Formula")) "__eq__" = some (some (.ref (mA K "Formula" "__eq__")))) && (decide (PySem.W.isFn K (.ref (mA K "Formula" "__eq__")) = true) && (decide (PySem.W.keepIn K (.ref (mA K "Formula" "__eq__")) = true))))))))
def tst23 (K : Fg) : Bool := decide (PySem.W.nsIn K mainGlobals "is_mark" = some (some (.ref (gA K "is_mark")))) && (decide (PySem.W.nsIn K mainGlobals "is_rule" = some (some (.ref (gA K "is_rule")))) && (decide (PySem.W.nsIn K mainGlobals "check_rows" = some (some (.ref (gA K "check_rows")))) && (decide (PySem.W.findIn K (.ref (gA K "Rules")) "__init__" = some (some (.ref (mA K "Rules" "__init__")))) && (decide (PySem.W.isFn K (.ref (mA K "Rules" "__init__")) = true) && (decide (PySem.W.keepIn K (.ref (mA K "Rules" "__init__")) = true) && (decide (PySem.W.findIn K (.ref (gA K "Rules")) "marks" = some (some (.ref (mA K "Rules" "marks")))) && (decide (PySem.W.specialIn K (.ref (mA K "Rules" "marks")) "__get__" = some (some (.builtin "property.__get__"))))))))))
def tst24 (K : Fg) : Bool := decide (PySem.W.takesIn K (.ref (mA K "Rules" "marks")) = some true) && (decide (PySem.W.recIn K (mA K "Rules" "marks") "property" = some (.ref (pF K "Rules" "marks") :: (pR K "Rules" "marks"))) && (decide (PySem.W.findIn K (.ref (gA K "Rules")) "__getitem__" = some (some (.ref (mA K "Rules" "__getitem__")))) && (decide (PySem.W.isFn K (.ref (mA K "Rules" "__getitem__")) = true) && (decide (PySem.W.keepIn K (.ref (mA K "Rules" "__getitem__")) = true) && (decide (PySem.W.findIn K (.ref (gA K "BadRules")) "__init__" = some (some (.ref (mA K "BadRules" "__init__")))) && (decide (PySem.W.typeIn K (.ref (mA K "BadRules" "__init__")) = some (.type "function")) && (decide (PySem.W.nsIn K mainGlobals "check_rows" = some (some (.ref (gA K "check_rows")))))))))))
def tst25 (K : Fg) : Bool := decide (PySem.W.findIn K (.ref (gA K "Rules")) "__init__" = some (some (.ref (mA K "Rules" "__init__")))) && (decide (PySem.W.isFn K (.ref (mA K "Rules" "__init__")) = true) && (decide (PySem.W.keepIn K (.ref (mA K "Rules" "__init__")) = true) && (decide (PySem.W.nsIn K mainGlobals "rows_by" = some (some (.ref (gA K "rows_by")))) && (decide (PySem.W.findIn K (.ref (gA K "Rules")) "__len__" = some (some (.ref (mA K "Rules" "__len__")))) && (decide (PySem.W.isFn K (.ref (mA K "Rules" "__len__")) = true) && (decide (PySem.W.keepIn K (.ref (mA K "Rules" "__len__")) = true) && (decide (PySem.W.findIn K (.ref (gA K "UnknownMark")) "__init__" = some (some (.ref (mA K "UnknownMark" "__init__")))))))))))
def tst26 (K : Fg) : Bool := decide (PySem.W.typeIn K (.ref (mA K "UnknownMark" "__init__")) = some (.type "function")) && (decide (PySem.W.findIn K (.ref (gA K "Desk")) "__init__" = some (some (.ref (mA K "Desk" "__init__")))) && (decide (PySem.W.isFn K (.ref (mA K "Desk" "__init__")) = true) && (decide (PySem.W.keepIn K (.ref (mA K "Desk" "__init__")) = true) && (decide (PySem.W.findIn K (.ref (gA K "Desk")) "rules" = some (some (.ref (mA K "Desk" "rules")))) && (decide (PySem.W.specialIn K (.ref (mA K "Desk" "rules")) "__get__" = some (some (.builtin "property.__get__"))) && (decide (PySem.W.takesIn K (.ref (mA K "Desk" "rules")) = some true) && (decide (PySem.W.recIn K (mA K "Desk" "rules") "property" = some (.ref (pF K "Desk" "rules") :: (pR K "Desk" "rules"))))))))))
def tst27 (K : Fg) : Bool := decide (PySem.W.findIn K (.ref (gA K "Desk")) "__len__" = some (some (.ref (mA K "Desk" "__len__")))) && (decide (PySem.W.isFn K (.ref (mA K "Desk" "__len__")) = true) && (decide (PySem.W.keepIn K (.ref (mA K "Desk" "__len__")) = true) && (decide (PySem.W.findIn K (.ref (gA K "Desk")) "change_to" = some (some (.ref (mA K "Desk" "change_to")))) && (decide (PySem.W.isFn K (.ref (mA K "Desk" "change_to")) = true) && (decide (PySem.W.keepIn K (.ref (mA K "Desk" "change_to")) = true) && (decide (PySem.W.findIn K (.ref (gA K "Desk")) "__getitem__" = some (some (.ref (mA K "Desk" "__getitem__")))) && (decide (PySem.W.isFn K (.ref (mA K "Desk" "__getitem__")) = true))))))))
def tst28 (K : Fg) : Bool := decide (PySem.W.keepIn K (.ref (mA K "Desk" "__getitem__")) = true) && (decide (PySem.W.findIn K (.ref (gA K "Desk")) "lay" = some (some (.ref (mA K "Desk" "lay")))) && (decide (PySem.W.isFn K (.ref (mA K "Desk" "lay")) = true) && (decide (PySem.W.keepIn K (.ref (mA K "Desk" "lay")) = true) && (decide (PySem.W.findIn K (.ref (gA K "Desk")) "__setitem__" = some (some (.ref (mA K "Desk" "__setitem__")))) && (decide (PySem.W.isFn K (.ref (mA K "Desk" "__setitem__")) = true) && (decide (PySem.W.keepIn K (.ref (mA K "Desk" "__setitem__")) = true) && (decide (PySem.W.findIn K (.ref (gA K "Desk")) "take_out" = some (some (.ref (mA K "Desk" "take_out")))))))))))
def tst29 (K : Fg) : Bool := decide (PySem.W.isFn K (.ref (mA K "Desk" "take_out")) = true) && (decide (PySem.W.keepIn K (.ref (mA K "Desk" "take_out")) = true) && (decide (PySem.W.findIn K (.ref (gA K "Desk")) "undo" = some (some (.ref (mA K "Desk" "undo")))) && (decide (PySem.W.isFn K (.ref (mA K "Desk" "undo")) = true) && (decide (PySem.W.keepIn K (.ref (mA K "Desk" "undo")) = true) && (decide (PySem.W.findIn K (.ref (gA K "Desk")) "redo" = some (some (.ref (mA K "Desk" "redo")))) && (decide (PySem.W.isFn K (.ref (mA K "Desk" "redo")) = true) && (decide (PySem.W.keepIn K (.ref (mA K "Desk" "redo")) = true))))))))
def tst30 (K : Fg) : Bool := decide (PySem.W.findIn K (.ref (gA K "Desk")) "__init__" = some (some (.ref (mA K "Desk" "__init__")))) && (decide (PySem.W.isFn K (.ref (mA K "Desk" "__init__")) = true) && (decide (PySem.W.keepIn K (.ref (mA K "Desk" "__init__")) = true) && (decide (PySem.W.nsIn K mainGlobals "_law_deck" = some (some (.ref (gA K "_law_deck")))) && (decide (PySem.W.nsIn K mainGlobals "_law_draw" = some (some (.ref (gA K "_law_draw")))) && (decide (PySem.W.nsIn K mainGlobals "_law_pick" = some (some (.ref (gA K "_law_pick")))) && (decide (PySem.W.nsIn K mainGlobals "_law_formula" = some (some (.ref (gA K "_law_formula")))) && (decide (PySem.W.nsIn K mainGlobals "_law_tree" = some (some (.ref (gA K "_law_tree")))))))))))
def tst31 (K : Fg) : Bool := decide (PySem.W.nsIn K mainGlobals "_law_form" = some (some (.ref (gA K "_law_form")))) && (decide (PySem.W.nsIn K mainGlobals "_law_rows" = some (some (.ref (gA K "_law_rows")))) && (decide (PySem.W.nsIn K mainGlobals "_law_begun" = some (some (.ref (gA K "_law_begun")))) && (decide (PySem.W.nsIn K mainGlobals "_law_is_shown" = some (some (.ref (gA K "_law_is_shown")))) && (decide (PySem.W.nsIn K mainGlobals "_law_value" = some (some (.ref (gA K "_law_value")))) && (decide (PySem.W.nsIn K mainGlobals "_law_is_kept" = some (some (.ref (gA K "_law_is_kept")))) && (decide (PySem.W.nsIn K mainGlobals "_law_back" = some (some (.ref (gA K "_law_back")))) && (decide (PySem.W.nsIn K mainGlobals "_law_turned" = some (some (.ref (gA K "_law_turned")))))))))))
def tst32 (K : Fg) : Bool := decide (PySem.W.nsIn K mainGlobals "_law_changed" = some (some (.ref (gA K "_law_changed")))) && (decide (PySem.W.nsIn K mainGlobals "_law_all_right" = some (some (.ref (gA K "_law_all_right")))) && (decide (PySem.W.nsIn K mainGlobals "_law_right" = some (some (.ref (gA K "_law_right")))) && (decide (PySem.W.nsIn K mainGlobals "_law_far_right" = some (some (.ref (gA K "_law_far_right")))) && (decide (PySem.W.nsIn K mainGlobals "law" = some (some (.ref (gA K "law"))))))))
def tsts_0 : List (Fg → Bool) := [tst0, tst1, tst2, tst3, tst4, tst5, tst6, tst7, tst8, tst9, tst10, tst11]
def tsts_1 : List (Fg → Bool) := [tst12, tst13, tst14, tst15, tst16, tst17, tst18, tst19, tst20, tst21, tst22, tst23]
def tsts_2 : List (Fg → Bool) := [tst24, tst25, tst26, tst27, tst28, tst29, tst30, tst31, tst32]
def tsts : List (Fg → Bool) := tsts_0 ++ (tsts_1 ++ (tsts_2))
def dT1 : DefT := ⟨fun K => (gA K "united"), "united", "united", HH.s_united, false⟩
def dT2 : DefT := ⟨fun K => (gA K "merged"), "merged", "merged", HH.s_merged, false⟩
def dT3 : DefT := ⟨fun K => (gA K "is_atom"), "is_atom", "is_atom", HH.s_is_atom, false⟩
def dT4 : DefT := ⟨fun K => (mA K "Formula" "__init__"), "__init__", "Formula.__init__", HH.s_Formula___init__, false⟩
def dT5 : DefT := ⟨fun K => (gA K "as_formula"), "as_formula", "as_formula", HH.s_as_formula, false⟩
def dT6 : DefT := ⟨fun K => (mA K "Formula" "__str__"), "__str__", "Formula.__str__", HH.s_Formula___str__, false⟩
def dT7 : DefT := ⟨fun K => (mA K "Formula" "__eq__"), "__eq__", "Formula.__eq__", HH.s_Formula___eq__, false⟩
def dT8 : DefT := ⟨fun K => (gA K "is_mark"), "is_mark", "is_mark", HH.s_is_mark, false⟩
def dT9 : DefT := ⟨fun K => (gA K "is_rule"), "is_rule", "is_rule", HH.s_is_rule, false⟩
def dT10 : DefT := ⟨fun K => (gA K "check_rows"), "check_rows", "check_rows", HH.s_check_rows, false⟩
def dT11 : DefT := ⟨fun K => (mA K "Rules" "__init__"), "__init__", "Rules.__init__", HH.s_Rules___init__, false⟩
def dT12 : DefT := ⟨fun K => (pF K "Rules" "marks"), "marks", "Rules.marks", HH.s_Rules_marks, false⟩
def dT13 : DefT := ⟨fun K => (mA K "Rules" "__getitem__"), "__getitem__", "Rules.__getitem__", HH.s_Rules___getitem__, false⟩
def dT14 : DefT := ⟨fun K => (mA K "BadRules" "__init__"), "__init__", "BadRules.__init__", HH.s_BadRules___init__, false⟩
def dT15 : DefT := ⟨fun K => (gA K "check_rows"), "check_rows", "check_rows", HH.s_check_rows, false⟩
def dT16 : DefT := ⟨fun K => (mA K "Rules" "__init__"), "__init__", "Rules.__init__", HH.s_Rules___init__, false⟩
def dT17 : DefT := ⟨fun K => (gA K "rows_by"), "rows_by", "rows_by", HH.s_rows_by, false⟩
def dT18 : DefT := ⟨fun K => (mA K "Rules" "__len__"), "__len__", "Rules.__len__", HH.s_Rules___len__, false⟩
def dT19 : DefT := ⟨fun K => (mA K "UnknownMark" "__init__"), "__init__", "UnknownMark.__init__", HH.s_UnknownMark___init__, false⟩
def dT20 : DefT := ⟨fun K => (mA K "Desk" "__init__"), "__init__", "Desk.__init__", HH.s_Desk___init__, false⟩
def dT21 : DefT := ⟨fun K => (pF K "Desk" "rules"), "rules", "Desk.rules", HH.s_Desk_rules, false⟩
def dT22 : DefT := ⟨fun K => (mA K "Desk" "__len__"), "__len__", "Desk.__len__", HH.s_Desk___len__, false⟩
def dT23 : DefT := ⟨fun K => (mA K "Desk" "change_to"), "change_to", "Desk.change_to", HH.s_Desk_change_to, false⟩
def dT24 : DefT := ⟨fun K => (mA K "Desk" "__getitem__"), "__getitem__", "Desk.__getitem__", HH.s_Desk___getitem__, false⟩
def dT25 : DefT := ⟨fun K => (mA K "Desk" "lay"), "lay", "Desk.lay", HH.s_Desk_lay, false⟩
def dT26 : DefT := ⟨fun K => (mA K "Desk" "__setitem__"), "__setitem__", "Desk.__setitem__", HH.s_Desk___setitem__, false⟩
def dT27 : DefT := ⟨fun K => (mA K "Desk" "take_out"), "take_out", "Desk.take_out", HH.s_Desk_take_out, false⟩
def dT28 : DefT := ⟨fun K => (mA K "Desk" "undo"), "undo", "Desk.undo", HH.s_Desk_undo, false⟩
def dT29 : DefT := ⟨fun K => (mA K "Desk" "redo"), "redo", "Desk.redo", HH.s_Desk_redo, false⟩
def dT30 : DefT := ⟨fun K => (mA K "Desk" "__init__"), "__init__", "Desk.__init__", HH.s_Desk___init__, false⟩
def dT31 : DefT := ⟨fun K => (gA K "_law_deck"), "_law_deck", "_law_deck", HH.s_law_deck, false⟩
def dT32 : DefT := ⟨fun K => (gA K "_law_draw"), "_law_draw", "_law_draw", HH.s_law_draw, false⟩
def dT33 : DefT := ⟨fun K => (gA K "_law_pick"), "_law_pick", "_law_pick", HH.s_law_pick, false⟩
def dT34 : DefT := ⟨fun K => (gA K "_law_formula"), "_law_formula", "_law_formula", HH.s_law_formula, false⟩
def dT35 : DefT := ⟨fun K => (gA K "_law_tree"), "_law_tree", "_law_tree", HH.s_law_tree, false⟩
def dT36 : DefT := ⟨fun K => (gA K "_law_form"), "_law_form", "_law_form", HH.s_law_form, false⟩
def dT37 : DefT := ⟨fun K => (gA K "_law_rows"), "_law_rows", "_law_rows", HH.s_law_rows, false⟩
def dT38 : DefT := ⟨fun K => (gA K "_law_begun"), "_law_begun", "_law_begun", HH.s_law_begun, false⟩
def dT39 : DefT := ⟨fun K => (gA K "_law_is_shown"), "_law_is_shown", "_law_is_shown", HH.s_law_is_shown, false⟩
def dT40 : DefT := ⟨fun K => (gA K "_law_value"), "_law_value", "_law_value", HH.s_law_value, false⟩
def dT41 : DefT := ⟨fun K => (gA K "_law_is_kept"), "_law_is_kept", "_law_is_kept", HH.s_law_is_kept, false⟩
def dT42 : DefT := ⟨fun K => (gA K "_law_back"), "_law_back", "_law_back", HH.s_law_back, false⟩
def dT43 : DefT := ⟨fun K => (gA K "_law_turned"), "_law_turned", "_law_turned", HH.s_law_turned, false⟩
def dT44 : DefT := ⟨fun K => (gA K "_law_changed"), "_law_changed", "_law_changed", HH.s_law_changed, false⟩
def dT45 : DefT := ⟨fun K => (gA K "_law_all_right"), "_law_all_right", "_law_all_right", HH.s_law_all_right, false⟩
def dT46 : DefT := ⟨fun K => (gA K "_law_right"), "_law_right", "_law_right", HH.s_law_right, false⟩
def dT47 : DefT := ⟨fun K => (gA K "_law_far_right"), "_law_far_right", "_law_far_right", HH.s_law_far_right, false⟩
def dT48 : DefT := ⟨fun K => (gA K "law"), "law", "law", HH.s_law, false⟩
def dTs_0 : List DefT := [dT1, dT2, dT3, dT4, dT5, dT6, dT7, dT8, dT9, dT10, dT11, dT12]
def dTs_1 : List DefT := [dT13, dT14, dT15, dT16, dT17, dT18, dT19, dT20, dT21, dT22, dT23, dT24]
def dTs_2 : List DefT := [dT25, dT26, dT27, dT28, dT29, dT30, dT31, dT32, dT33, dT34, dT35, dT36]
def dTs_3 : List DefT := [dT37, dT38, dT39, dT40, dT41, dT42, dT43, dT44, dT45, dT46, dT47, dT48]
def dTs : List DefT := dTs_0 ++ (dTs_1 ++ (dTs_2 ++ (dTs_3)))
def dcs_0 : List DicT := [⟨fun K => (gA K "PARTS_OF"), ["atom", "no", "if", "all"]⟩]
def dcs : List DicT := dcs_0
def names_0 : List PySem.Str := ["_wall", "__name__", "WebError", "BadFormula", "BadText", "BadRules", "UnknownMark", "Clash", "NothingToUndo", "NothingToRedo", "LETTERS", "ATOM"]
def names_1 : List PySem.Str := ["NO", "IF", "ALL", "PARTS_OF", "ALL_AHEAD", "BETWEEN", "is_atom", "united", "merged", "Formula", "as_formula", "operand"]
def names_2 : List PySem.Str := ["both", "either", "no", "every", "place_of_end", "formula_in", "begun_at", "MOST_MARKS", "PAIR_PARTS", "CAPITALS", "ROWS", "ORDER"]
def names_3 : List PySem.Str := ["is_mark", "is_rule", "check_rows", "rows_by", "Rules", "Desk", "_law_deck", "_law_draw", "_law_pick", "_law_formula", "_law_tree", "_law_form"]
def names_4 : List PySem.Str := ["_law_is_bare", "_law_wrong", "_law_rows", "_law_begun", "_law_is_shown", "_law_value", "_law_is_kept", "_law_back", "_law_changed", "_law_turned", "_law_right", "_law_all_right"]
def names_5 : List PySem.Str := ["_law_far_right"]
def names : List PySem.Str := names_0 ++ (names_1 ++ (names_2 ++ (names_3 ++ (names_4 ++ (names_5)))))
abbrev RW_ : PySem.W.OpenRow := PySem.W.OpenLaw.row PySem.Challenge.rw_allbeneath_k50_undone_and_made_again
abbrev qW : Program := PySem.W.view RW_.prog [65]
abbrev hkW : PySem.W.Hook := hookT tsts dTs dcs
def obW (s : PySem.W.SharedT) : AlT := obT tsts dTs dcs s
theorem obW_eq (s : PySem.W.SharedT) : obW s = hkW.obs s.abs := obT_eq s
theorem run_f (w : World) : HandSHeadRun.RunEq RW_ qW hkW obW 40000 names (w.withFollow "special-get-raises" false) := by
  intro os
  kernel_rfl
theorem run_t (w : World) : HandSHeadRun.RunEq RW_ qW hkW obW 40000 names (w.withFollow "special-get-raises" true) := by
  intro os
  kernel_rfl
theorem run_W : ∀ w : World, HandSHeadRun.RunEq RW_ qW hkW obW 40000 names w := PySem.W.byRow2 "special-get-raises" (P := fun w => HandSHeadRun.RunEq RW_ qW hkW obW 40000 names w) run_f run_t
end N
set_option Elab.async false
set_option linter.all false
set_option maxRecDepth 100000
namespace N
open PySem L2
/-- formulas -/
inductive Fm where
  | at (c : Nat) | no | imp (a b : Fm) | all (a : Fm)
  deriving DecidableEq
/-- plain data -/
inductive D where
  | vl (v : V)
  | tup (l : List D)
  | lst (l : List D)
  | dct (ks : List Key) (l : List D)
  | obj (c : Nat) (ns : List Str) (l : List D)
  | fm (f : Fm)
  | scr (l : List V)
  | nkd (w : World) (ks : List NestedKey) (l : List D)
  /-- a tuple that is known to have no dict of its own -/
  | tupz (l : List D)
@[reducible] def D.int (i : Int) : D := .vl (.int i)
@[reducible] def D.bl (b : Bool) : D := .vl (.bl b)
@[reducible] def D.str (s : Str) : D := .vl (.str s)
@[reducible] def D.non : D := .vl .non
@[reducible] def D.adr (a : Addr) : D := .vl (.ref a)
/-- the module's written part, the classes' places -/
structure Kx where
  K : PySem.W.Frag
  cl : Nat → Addr
/-- what is kept of a formula: filled in by the texts that speak of formulas -/
structure FmKit where
  kind : Fm → Str
  many : Fm → Int
  deep : Fm → Int
  atoms : Fm → Str
  bare : Fm → Str
  spell : Fm → Str
  alls : Fm → List Fm
def AllR (R : Addr → Fm → Prop) : List Addr → List Fm → Prop
  | [], fs => fs = []
  | a :: as, fs => ∃ f r, fs = f :: r ∧ R a f ∧ AllR R as r
theorem AllR.imp {R S : Addr → Fm → Prop} (h : ∀ a f, R a f → S a f) : ∀ {as : List Addr} {fs : List Fm}, AllR R as fs → AllR S as fs
  | [], _, e => e
  | _ :: _, _, ⟨f, r, e, x, t⟩ => ⟨f, r, e, h _ _ x, AllR.imp h t⟩
def PartsR (R : Addr → Fm → Prop) : Fm → List V → Prop
  | .at c, ps => ps = [.str ⟨#[c]⟩]
  | .no, ps => ps = []
  | .imp a b, ps => ∃ p q, ps = [.ref p, .ref q] ∧ R p a ∧ R q b
  | .all a, ps => ∃ p, ps = [.ref p] ∧ R p a
theorem PartsR.imp {R S : Addr → Fm → Prop} (h : ∀ a f, R a f → S a f) : ∀ {f : Fm} {ps : List V}, PartsR R f ps → PartsR S f ps
  | .at _, _, e => e
  | .no, _, e => e
  | .imp _ _, _, ⟨p, q, e, x, y⟩ => ⟨p, q, e, h _ _ x, h _ _ y⟩
  | .all _, _, ⟨p, e, x⟩ => ⟨p, e, h _ _ x⟩
section
variable (F : FmKit) (T : Kx)
def fmNames : List Str := ["kind", "parts", "many", "deepest", "atoms", "bare", "spelled", "alls_known"]
def fmFields (f : Fm) (pa al : Addr) : List (Str × V) :=
  [("kind", .str (F.kind f)), ("parts", .ref pa), ("many", .int (F.many f)), ("deepest", .int (F.deep f)), ("atoms", .str (F.atoms f)), ("bare", .str (F.bare f)), ("spelled", .str (F.spell f)), ("alls_known", .ref al)]
def FStep (H : Hp) (R : Addr → Fm → Prop) (a : Addr) (f : Fm) : Prop :=
  ∃ dx pa ps al as, H a = some (.ins (T.cl 0) dx (fmFields F f pa al)) ∧ SqT T.K H pa ps ∧ PartsR R f ps ∧ SqT T.K H al (as.map V.ref) ∧ AllR R as (F.alls f)
def FormAt (H : Hp) (a : Addr) (f : Fm) : Prop := ∃ R : Addr → Fm → Prop, (∀ b g, R b g → FStep F T H R b g) ∧ R a f
end
theorem Same.sqT {K : PySem.W.Frag} {H H' : Hp} {a : Addr} {xs : List V} (e : Same H H') (h : SqT K H a xs) : SqT K H' a xs := by
  rcases h with (h | ⟨o, h⟩) | h
  · exact .inl (.inl (e _ _ h))
  · exact .inl (.inr ⟨o, e _ _ h⟩)
  · exact .inr h
section
variable {F : FmKit} {T : Kx} {H H' : Hp} {R S : Addr → Fm → Prop} {a : Addr} {f : Fm}
theorem FStep.imp (h : ∀ a f, R a f → S a f) (e : Same H H') (x : FStep F T H R a f) : FStep F T H' S a f := by
  obtain ⟨dx, pa, ps, al, as, h1, h2, h3, h4, h5⟩ := x
  exact ⟨dx, pa, ps, al, as, e _ _ h1, Same.sqT e h2, h3.imp h, Same.sqT e h4, h5.imp h⟩
theorem FormAt.mono (e : Same H H') (x : FormAt F T H a f) : FormAt F T H' a f := by
  obtain ⟨R, h, r⟩ := x
  exact ⟨R, fun b g y => (h b g y).imp (fun _ _ z => z) e, r⟩
theorem FormAt.out (x : FormAt F T H a f) : FStep F T H (FormAt F T H) a f := by
  obtain ⟨R, h, r⟩ := x
  exact (h a f r).imp (fun b g y => ⟨R, h, y⟩) (Same.refl _)
theorem FormAt.mk (x : FStep F T H (fun b g => FormAt F T H b g ∨ (b = a ∧ g = f)) a f) : FormAt F T H a f := by
  refine ⟨fun b g => FormAt F T H b g ∨ (b = a ∧ g = f), fun b g y => ?_, .inr ⟨rfl, rfl⟩⟩
  rcases y with y | ⟨rfl, rfl⟩
  · exact y.out.imp (fun _ _ z => .inl z) (Same.refl _)
  · exact x
end
/-- a dict whose keys are nested tuples: its cell alone -/
def NkRaw (w : World) (h : Heap) (p : Addr) (as : List (NestedKey × Addr × V)) : Prop := ∃ (o : Obj) (es : Array DictEntry) (ep : Nat) (us : List (NestedKey × Addr × Value)),
  (p == sysModules) = false ∧ h.get? p = some o ∧ o.ExactDict ∧ o.data = .dict es ep ∧ es.toList = us.map (fun x => (⟨x.1.hash w, .ref x.2.1, x.2.2⟩ : DictEntry)) ∧ Paired (fun (a : NestedKey × Addr × V) (u : NestedKey × Addr × Value) => a.1 = u.1 ∧ a.2.1 = u.2.1 ∧ RelV a.2.2 u.2.2) as us
def NkO (w : World) (p : Addr) (as : List (NestedKey × Addr × V)) : HO := .ext fun h => NkRaw w h p as
mutual
/-- the value is such a key -/
def NkV (K : PySem.W.Frag) (H : Hp) : NestedKey → V → Prop
  | .none, v => v = .non
  | .num i, v => v = .int i
  | .text s, v => v = .str s
  | .tup ks, v => ∃ a xs, v = .ref a ∧ SqT K H a xs ∧ NkL K H ks xs
def NkL (K : PySem.W.Frag) (H : Hp) : List NestedKey → List V → Prop
  | [], vs => vs = []
  | k :: ks, vs => ∃ v r, vs = v :: r ∧ NkV K H k v ∧ NkL K H ks r
end
mutual
theorem NkV.mono {K : PySem.W.Frag} {H H' : Hp} (e : Same H H') : ∀ (k : NestedKey) (v : V), NkV K H k v → NkV K H' k v
  | .none, _, h => h
  | .num _, _, h => h
  | .text _, _, h => h
  | .tup ks, _, ⟨a, xs, h1, h2, h3⟩ => ⟨a, xs, h1, Same.sqT e h2, NkL.mono e ks xs h3⟩
theorem NkL.mono {K : PySem.W.Frag} {H H' : Hp} (e : Same H H') : ∀ (ks : List NestedKey) (vs : List V), NkL K H ks vs → NkL K H' ks vs
  | [], _, h => h
  | k :: ks, _, ⟨v, r, h1, h2, h3⟩ => ⟨v, r, h1, NkV.mono e k v h2, NkL.mono e ks r h3⟩
end
section
variable (F : FmKit) (T : Kx) (H : Hp)
mutual
def Den : D → V → Prop
  | .vl w, v => v = w
  | .tup l, v => ∃ a xs, v = .ref a ∧ SqT T.K H a xs ∧ DenL l xs
  | .lst l, v => ∃ a xs, v = .ref a ∧ H a = some (.lst xs) ∧ DenL l xs
  | .dct ks l, v => ∃ a kvs, v = .ref a ∧ H a = some (.dK kvs) ∧ kvs.map (·.1) = ks ∧ ks.Nodup ∧ DenL l (kvs.map (·.2))
  | .obj c ns l, v => ∃ a dx fs, v = .ref a ∧ H a = some (.ins (T.cl c) dx fs) ∧ fs.map (·.1) = ns ∧ DenL l (fs.map (·.2))
  | .fm f, v => ∃ a, v = .ref a ∧ FormAt F T H a f
  | .scr l, v => ∃ a, v = .ref a ∧ SqL T.K H a l
  | .nkd w ks l, v => ∃ a as, v = .ref a ∧ H a = some (NkO w a as) ∧ as.map (·.1) = ks ∧ ks.Nodup ∧ (∀ z ∈ as, NkV T.K H z.1 (.ref z.2.1) ∧ z.1.depth ≤ 8) ∧ DenL l (as.map (·.2.2))
  | .tupz l, v => ∃ a xs o, v = .ref a ∧ H a = some (.frz o (.tup xs)) ∧ o.dict = none ∧ DenL l xs
def DenL : List D → List V → Prop
  | [], vs => vs = []
  | d :: l, vs => ∃ v r, vs = v :: r ∧ Den d v ∧ DenL l r
end
end
section
variable {F : FmKit} {T : Kx} {H H' : Hp}
mutual
theorem Den.mono (e : Same H H') : ∀ (d : D) (v : V), Den F T H d v → Den F T H' d v
  | .vl _, _, h => h
  | .tup l, _, ⟨a, xs, h1, h2, h3⟩ => ⟨a, xs, h1, Same.sqT e h2, DenL.mono e l xs h3⟩
  | .lst l, _, ⟨a, xs, h1, h2, h3⟩ => ⟨a, xs, h1, e _ _ h2, DenL.mono e l xs h3⟩
  | .dct ks l, _, ⟨a, kvs, h1, h2, h3, h4, h5⟩ => ⟨a, kvs, h1, e _ _ h2, h3, h4, DenL.mono e l _ h5⟩
  | .obj c ns l, _, ⟨a, dx, fs, h1, h2, h3, h4⟩ => ⟨a, dx, fs, h1, e _ _ h2, h3, DenL.mono e l _ h4⟩
  | .fm f, _, ⟨a, h1, h2⟩ => ⟨a, h1, h2.mono e⟩
  | .scr l, _, ⟨a, h1, h2⟩ => ⟨a, h1, e.seq h2⟩
  | .nkd w ks l, _, ⟨a, as, h1, h2, h3, h4, h5, h6⟩ => ⟨a, as, h1, e _ _ h2, h3, h4, fun z hz => ⟨NkV.mono e _ _ (h5 z hz).1, (h5 z hz).2⟩, DenL.mono e l _ h6⟩
  | .tupz l, _, ⟨a, xs, o, h1, h2, h3, h4⟩ => ⟨a, xs, o, h1, e _ _ h2, h3, DenL.mono e l xs h4⟩
theorem DenL.mono (e : Same H H') : ∀ (l : List D) (vs : List V), DenL F T H l vs → DenL F T H' l vs
  | [], _, h => h
  | d :: l, _, ⟨v, r, h1, h2, h3⟩ => ⟨v, r, h1, Den.mono e d v h2, DenL.mono e l r h3⟩
end
theorem DenL.len : ∀ {l : List D} {vs : List V}, DenL F T H l vs → vs.length = l.length
  | [], _, h => by
    have h : _ = [] := h
    rw [h]
    rfl
  | d :: l, _, ⟨v, r, h1, _, h3⟩ => by
    rw [h1, List.length_cons, List.length_cons, DenL.len h3]
theorem DenL.get : ∀ {l : List D} {vs : List V} {i : Nat} {d : D}, DenL F T H l vs → l[i]? = some d → ∃ v, vs[i]? = some v ∧ Den F T H d v
  | [], _, i, d, _, e => by simp at e
  | x :: l, _, 0, d, ⟨v, r, h1, h2, _⟩, e => by
    subst h1
    have e : x = d := Option.some.inj e
    subst e
    exact ⟨v, rfl, h2⟩
  | x :: l, _, i + 1, d, ⟨v, r, h1, _, h3⟩, e => by
    subst h1
    exact DenL.get (i := i) (d := d) h3 e
theorem DenL.at : ∀ {l : List D} {vs : List V} {i : Nat} {v : V}, DenL F T H l vs → vs[i]? = some v → ∃ d, l[i]? = some d ∧ Den F T H d v
  | [], _, i, v, h, e => by
    have h : _ = [] := h
    rw [h] at e
    simp at e
  | x :: l, _, 0, v, ⟨u, r, h1, h2, _⟩, e => by
    subst h1
    have e : u = v := Option.some.inj e
    subst e
    exact ⟨x, rfl, h2⟩
  | x :: l, _, i + 1, v, ⟨u, r, h1, _, h3⟩, e => by
    subst h1
    exact DenL.at (i := i) (v := v) h3 e
theorem DenL.app : ∀ {l m : List D} {vs us : List V}, DenL F T H l vs → DenL F T H m us → DenL F T H (l ++ m) (vs ++ us)
  | [], m, _, us, h, k => by
    have h : _ = [] := h
    subst h
    exact k
  | d :: l, m, _, us, ⟨v, r, h1, h2, h3⟩, k => by
    subst h1
    exact ⟨v, r ++ us, rfl, h2, DenL.app h3 k⟩
theorem DenL.app_inv : ∀ {l m : List D} {vs : List V}, DenL F T H (l ++ m) vs → ∃ us ws, vs = us ++ ws ∧ DenL F T H l us ∧ DenL F T H m ws
  | [], m, vs, h => ⟨[], vs, rfl, rfl, h⟩
  | d :: l, m, _, ⟨v, r, h1, h2, h3⟩ => by
    obtain ⟨us, ws, e, p, q⟩ := DenL.app_inv (l := l) h3
    exact ⟨v :: us, ws, by rw [h1, e] <;> rfl, ⟨v, us, rfl, h2, p⟩, q⟩
theorem DenL.set : ∀ {l : List D} {vs : List V} {i : Nat} {d : D} {v : V}, DenL F T H l vs → Den F T H d v → DenL F T H (l.set i d) (vs.set i v)
  | [], _, i, d, v, h, _ => by
    have h : _ = [] := h
    subst h
    rfl
  | x :: l, _, 0, d, v, ⟨u, r, h1, _, h3⟩, k => by
    subst h1
    exact ⟨v, r, rfl, k, h3⟩
  | x :: l, _, i + 1, d, v, ⟨u, r, h1, h2, h3⟩, k => by
    subst h1
    exact ⟨u, r.set i v, rfl, h2, DenL.set h3 k⟩
theorem DenL.one {d : D} {v : V} (h : Den F T H d v) : DenL F T H [d] [v] := ⟨v, [], rfl, h, rfl⟩
theorem DenL.vls (vs : List V) : DenL F T H (vs.map D.vl) vs := by
  induction vs with
  | nil => rfl
  | cons v r ih => exact ⟨v, r, rfl, rfl, ih⟩
theorem DenL.vls_inv : ∀ {ws vs : List V}, DenL F T H (ws.map D.vl) vs → vs = ws
  | [], _, h => h
  | w :: ws, _, ⟨v, r, h1, h2, h3⟩ => by
    have h2 : v = w := h2
    rw [h1, h2, DenL.vls_inv (ws := ws) h3]
theorem DenL.reverse : ∀ {l : List D} {vs : List V}, DenL F T H l vs → DenL F T H l.reverse vs.reverse
  | [], _, h => by
    have h : _ = [] := h
    subst h
    rfl
  | d :: l, _, ⟨v, r, h1, h2, h3⟩ => by
    subst h1
    rw [List.reverse_cons, List.reverse_cons]
    exact (DenL.reverse h3).app (DenL.one h2)
theorem DenL.take : ∀ {l : List D} {vs : List V} (n : Nat), DenL F T H l vs → DenL F T H (l.take n) (vs.take n)
  | l, vs, 0, _ => by
    rw [List.take_zero, List.take_zero]
    rfl
  | [], _, n + 1, h => by
    have h : _ = [] := h
    subst h
    rfl
  | d :: l, _, n + 1, ⟨v, r, h1, h2, h3⟩ => by
    subst h1
    exact ⟨v, r.take n, rfl, h2, DenL.take n h3⟩
theorem DenL.drop : ∀ {l : List D} {vs : List V} (n : Nat), DenL F T H l vs → DenL F T H (l.drop n) (vs.drop n)
  | l, vs, 0, h => h
  | [], _, n + 1, h => by
    have h : _ = [] := h
    subst h
    rfl
  | d :: l, _, n + 1, ⟨v, r, h1, h2, h3⟩ => by
    subst h1
    exact DenL.drop n h3
end
def ov (O H : Hp) : Hp := fun b => match O b with | some o => some o | none => H b
def Dis (O H : Hp) : Prop := ∀ b o, O b = some o → H b = none
section
variable {O O' H H' : Hp} {a b : Addr} {o u : HO}
theorem ov_own (h : O b = some o) : ov O H b = some o := by
  unfold ov
  rw [h]
theorem ov_fro (h : O b = none) : ov O H b = H b := by
  unfold ov
  rw [h]
theorem ov_none (h : ov O H b = none) : O b = none ∧ H b = none := by
  unfold ov at h
  cases e : O b with
  | none =>
    rw [e] at h
    exact ⟨rfl, h⟩
  | some o =>
    rw [e] at h
    cases h
theorem Dis.same (d : Dis O H) : Same H (ov O H) := fun b o h => by
  cases e : O b with
  | none => rw [ov_fro e, h]
  | some x =>
    rw [d b x e] at h
    cases h
theorem Dis.fro (d : Dis O H) (h : H a = some o) : O a = none := by
  cases e : O a with
  | none => rfl
  | some x =>
    rw [d a x e] at h
    cases h
theorem ov_updH (h : O a = none) : upd (ov O H) a o = ov O (upd H a o) := by
  funext b
  by_cases e : b = a
  · subst e
    rw [upd_same, ov_fro h, upd_same]
  · rw [upd_ne e]
    unfold ov
    rw [upd_ne e]
theorem ov_updO : upd (ov O H) a o = ov (upd O a o) H := by
  funext b
  by_cases e : b = a
  · subst e
    rw [upd_same, ov_own upd_same]
  · rw [upd_ne e]
    unfold ov
    rw [upd_ne e]
theorem Dis.updH (d : Dis O H) (h : O a = none) : Dis O (upd H a o) := fun b x e => by
  have n : b ≠ a := fun q => by
    subst q
    rw [h] at e
    cases e
  rw [upd_ne n]
  exact d b x e
theorem Dis.updO (d : Dis O H) (h : H a = none) : Dis (upd O a o) H := fun b x e => by
  by_cases q : b = a
  · subst q
    exact h
  · rw [upd_ne q] at e
    exact d b x e
theorem same_upd (h : H a = none) : Same H (upd H a o) := fun b x e => by
  rw [upd_ne (ne_of_none e h)]
  exact e
/-- a cell taken out -/
def del (O : Hp) (a : Addr) : Hp := fun b => if b = a then none else O b
theorem del_same : del O a a = none := by
  unfold del
  rw [if_pos rfl]
theorem del_ne (h : b ≠ a) : del O a b = O b := by
  unfold del
  rw [if_neg h]
theorem ov_freeze (h : O a = some o) : ov O H = ov (del O a) (upd H a o) := by
  funext b
  by_cases e : b = a
  · subst e
    rw [ov_own h, ov_fro del_same, upd_same]
  · unfold ov
    rw [del_ne e, upd_ne e]
theorem Dis.freeze (d : Dis O H) : Dis (del O a) (upd H a o) := fun b x e => by
  by_cases q : b = a
  · subst q
    rw [del_same] at e
    cases e
  · rw [del_ne q] at e
    rw [upd_ne q]
    exact d b x e
/-- everything but what is in the way stays behind -/
def minus (H C : Hp) : Hp := fun b => match C b with | some _ => none | none => H b
theorem ov_minus (h : Same O H) : ov O (minus H O) = H := by
  funext b
  unfold ov minus
  cases e : O b with
  | none => rfl
  | some o => exact (h b o e).symm
theorem dis_minus : Dis O (minus H O) := fun b o e => by
  unfold minus
  rw [e]
end
end N
set_option Elab.async false
set_option linter.all false
set_option maxRecDepth 100000
namespace N
open PySem L2
/-- what an owned cell holds -/
inductive OD where
  | lst (l : List D)
  | dct (ks : List Key) (l : List D)
  | ins (c : Nat) (ns : List Str) (l : List D)
  | any (o : HO)
  | lk (z : Obj) (kvs : List (Key × V)) (ks : List Key) (l : List D)
  | nk (w : World) (p : Addr) (ks : List (NestedKey × D))
  | xd (ns : List Str) (l : List D)
abbrev Gm := List (Option D)
abbrev Om := List (Addr × OD)
def akeys (W : Om) : List Addr := W.map (·.1)
section
variable (F : FmKit) (T : Kx)
def OdAt (H : Hp) (x : Option HO) : OD → Prop
  | .lst l => ∃ xs, x = some (.lst xs) ∧ DenL F T H l xs
  | .dct ks l => ∃ kvs, x = some (.dK kvs) ∧ kvs.map (·.1) = ks ∧ ks.Nodup ∧ DenL F T H l (kvs.map (·.2))
  | .ins c ns l => ∃ dx fs, x = some (.ins (T.cl c) dx fs) ∧ fs.map (·.1) = ns ∧ DenL F T H l (fs.map (·.2))
  | .any o => x = some o
  | .lk z kvs ks l => x = some (.frz z (.dK kvs)) ∧ kvs.map (·.1) = ks ∧ ks.Nodup ∧ DenL F T H l (kvs.map (·.2))
  | .nk w p ks => ∃ as, x = some (NkO w p as) ∧ as.map (·.1) = ks.map (·.1) ∧ (ks.map (·.1)).Nodup ∧ (∀ z ∈ as, NkV T.K H z.1 (.ref z.2.1) ∧ z.1.depth ≤ 8) ∧ DenL F T H (ks.map (·.2)) (as.map (·.2.2))
  | .xd ns l => ∃ fs, x = some (.xd fs) ∧ fs.map (·.1) = ns ∧ DenL F T H l (fs.map (·.2))
/-- the slots -/
structure Lo (H : Hp) (G : Gm) (σ : St) : Prop where
  len : σ.length = G.length
  at_ : ∀ (i : Nat) (d : D), G[i]? = some (some d) → ∃ v, σ[i]? = some (some v) ∧ Den F T H d v
structure Ow (H C O : Hp) (W : Om) : Prop where
  nd : (akeys W).Nodup
  at_ : ∀ a od, (a, od) ∈ W → C a = none ∧ OdAt F T H (O a) od
/-- frozen H, owned O (the callers' part C of it), slots, owned cells -/
structure Wd (C : Hp) (G : Gm) (W : Om) (H O : Hp) (σ : St) : Prop where
  dis : Dis O H
  oc : Same C O
  loc : Lo F T H G σ
  own : Ow F T H C O W
/-- behind a step -/
structure Nx (C : Hp) (W : Om) (H H' O' : Hp) : Prop where
  ext : Same H H'
  dis : Dis O' H'
  oc : Same C O'
  own : Ow F T H' C O' W
end
section
variable {F : FmKit} {T : Kx} {H H' H1 C O O' : Hp} {G : Gm} {W W' : Om} {σ : St}
theorem OdAt.mono {x : Option HO} (e : Same H H') : ∀ {od : OD}, OdAt F T H x od → OdAt F T H' x od
  | .lst l, ⟨xs, h, k⟩ => ⟨xs, h, k.mono e⟩
  | .dct ks l, ⟨kvs, h, n, d, k⟩ => ⟨kvs, h, n, d, k.mono e⟩
  | .ins c ns l, ⟨dx, fs, h, n, k⟩ => ⟨dx, fs, h, n, k.mono e⟩
  | .any o, h => h
  | .lk z kvs ks l, ⟨h, n, d, k⟩ => ⟨h, n, d, k.mono e⟩
  | .nk w p ks, ⟨as, h, n, d, k, q⟩ => ⟨as, h, n, d, fun z hz => ⟨NkV.mono e _ _ (k z hz).1, (k z hz).2⟩, q.mono e⟩
  | .xd ns l, ⟨fs, h, n, k⟩ => ⟨fs, h, n, k.mono e⟩
theorem OdAt.some {x : Option HO} : ∀ {od : OD}, OdAt F T H x od → ∃ o, x = some o
  | .lst l, ⟨xs, h, k⟩ => ⟨_, h⟩
  | .dct ks l, ⟨kvs, h, n, d, k⟩ => ⟨_, h⟩
  | .ins c ns l, ⟨dx, fs, h, n, k⟩ => ⟨_, h⟩
  | .any o, h => ⟨_, h⟩
  | .lk z kvs ks l, ⟨h, n, d, k⟩ => ⟨_, h⟩
  | .nk w p ks, ⟨as, h, _⟩ => ⟨_, h⟩
  | .xd ns l, ⟨fs, h, n, k⟩ => ⟨_, h⟩
theorem Lo.mono (e : Same H H') (l : Lo F T H G σ) : Lo F T H' G σ :=
  ⟨l.len, fun i d h => let ⟨v, a, b⟩ := l.at_ i d h; ⟨v, a, b.mono e⟩⟩
theorem Lo.set {i : Nat} {d : D} {v : V} (l : Lo F T H G σ) (h : Den F T H d v) : Lo F T H (G.set i (some d)) (σ.set i (some v)) := by
  refine ⟨by rw [List.length_set, List.length_set]; exact l.len, fun j d' e => ?_⟩
  by_cases q : i = j
  · subst q
    have hi : i < G.length := by
      have := (List.getElem?_eq_some_iff.mp e).1
      rwa [List.length_set] at this
    rw [List.getElem?_set_self hi] at e
    have e : d = d' := Option.some.inj (Option.some.inj e)
    subst e
    exact ⟨v, by rw [List.getElem?_set_self (by rw [l.len]; exact hi)], h⟩
  · rw [List.getElem?_set_ne q] at e
    rw [List.getElem?_set_ne q]
    exact l.at_ j d' e
theorem Lo.forget {i : Nat} (l : Lo F T H G σ) (x : Option V) : Lo F T H (G.set i none) (σ.set i x) := by
  refine ⟨by rw [List.length_set, List.length_set]; exact l.len, fun j d' e => ?_⟩
  by_cases q : i = j
  · subst q
    have hi : i < G.length := by
      have := (List.getElem?_eq_some_iff.mp e).1
      rwa [List.length_set] at this
    rw [List.getElem?_set_self hi] at e
    cases e
  · rw [List.getElem?_set_ne q] at e
    rw [List.getElem?_set_ne q]
    exact l.at_ j d' e
theorem Ow.mono (e : Same H H') (o : Ow F T H C O W) : Ow F T H' C O W := ⟨o.nd, fun a od h => ⟨(o.at_ a od h).1, (o.at_ a od h).2.mono e⟩⟩
theorem Ow.notin {a : Addr} (o : Ow F T H C O W) (h : O a = none) : a ∉ akeys W := fun z => by
  obtain ⟨p, hp, e⟩ := List.mem_map.mp z
  obtain ⟨x, q⟩ := (o.at_ p.1 p.2 hp).2.some
  rw [e, h] at q
  cases q
theorem Nx.refl (d : Dis O H) (oc : Same C O) (o : Ow F T H C O W) : Nx F T C W H H O := ⟨Same.refl _, d, oc, o⟩
theorem Wd.nx (w : Wd F T C G W H O σ) : Nx F T C W H H O := ⟨Same.refl _, w.dis, w.oc, w.own⟩
theorem Nx.trans (a : Nx F T C W H H1 O) (b : Nx F T C W' H1 H' O') : Nx F T C W' H H' O' := ⟨a.ext.trans b.ext, b.dis, b.oc, b.own⟩
theorem Wd.step (w : Wd F T C G W H O σ) (n : Nx F T C W' H H' O') : Wd F T C G W' H' O' σ := ⟨n.dis, n.oc, w.loc.mono n.ext, n.own⟩
end
section
variable (F : FmKit) (T : Kx)
/-- te, at the slots G and the owned cells W, gives a d and leaves owned cells so that R -/
def Ev (te : TE) (G : Gm) (W : Om) (R : D → Om → Prop) : Prop :=
  ∀ (C H O : Hp) (σ : St), Wd F T C G W H O σ → ∀ Q : VK, (∀ d W' H' O' v, R d W' → Nx F T C W' H H' O' → Den F T H' d v → Q v (ov O' H')) → te σ (ov O H) Q
def EvT (t : TT) (G : Gm) (W : Om) (R : Bool → Om → Prop) : Prop :=
  ∀ (C H O : Hp) (σ : St), Wd F T C G W H O σ → ∀ Q : Bool → Hp → Prop, (∀ b W' H' O', R b W' → Nx F T C W' H H' O' → Q b (ov O' H')) → t σ (ov O H) Q
def EvA (ta : TA) (G : Gm) (W : Om) (R : List D → Om → Prop) : Prop :=
  ∀ (C H O : Hp) (σ : St), Wd F T C G W H O σ → ∀ Q : List V → Hp → Prop, (∀ ds W' H' O' vs, R ds W' → Nx F T C W' H H' O' → DenL F T H' ds vs → Q vs (ov O' H')) → ta σ (ov O H) Q
def EvO (to : TO) (G : Gm) (W : Om) (R : Option Int → Om → Prop) : Prop :=
  ∀ (C H O : Hp) (σ : St), Wd F T C G W H O σ → ∀ Q : Option Int → Hp → Prop, (∀ i W' H' O', R i W' → Nx F T C W' H H' O' → Q i (ov O' H')) → to σ (ov O H) Q
/-- an operation on two data -/
def Bo (r : R2) (d1 d2 : D) (W : Om) (R : D → Om → Prop) : Prop :=
  ∀ (C H O : Hp), Dis O H → Same C O → Ow F T H C O W → ∀ x y, Den F T H d1 x → Den F T H d2 y → ∀ Q : VK, (∀ d W' H' O' v, R d W' → Nx F T C W' H H' O' → Den F T H' d v → Q v (ov O' H')) → r x y (ov O H) Q
/-- a call on data -/
def Ca (r : List V → Hp → VK → Prop) (ds : List D) (W : Om) (R : D → Om → Prop) : Prop :=
  ∀ (C H O : Hp), Dis O H → Same C O → Ow F T H C O W → ∀ vs, DenL F T H ds vs → ∀ Q : VK, (∀ d W' H' O' v, R d W' → Nx F T C W' H H' O' → Den F T H' d v → Q v (ov O' H')) → r vs (ov O H) Q
structure En where
  nx : Gm → Om → Prop
  rt : D → Om → Prop
  bk : Gm → Om → Prop := fun _ _ => False
  ct : Gm → Om → Prop := fun _ _ => False
/-- the ends at heaps are met by the ends at data -/
structure EnOk (C H : Hp) (E : En) (B : Ends) : Prop where
  nx : ∀ G W H' O' σ', E.nx G W → Nx F T C W H H' O' → Lo F T H' G σ' → B.nx σ' (ov O' H')
  rt : ∀ d W H' O' v, E.rt d W → Nx F T C W H H' O' → Den F T H' d v → B.rt v (ov O' H')
  bk : ∀ G W H' O' σ', E.bk G W → Nx F T C W H H' O' → Lo F T H' G σ' → B.bk σ' (ov O' H')
  ct : ∀ G W H' O' σ', E.ct G W → Nx F T C W H H' O' → Lo F T H' G σ' → B.ct σ' (ov O' H')
def Sw (ts : TS) (G : Gm) (W : Om) (E : En) : Prop :=
  ∀ (C H O : Hp) (σ : St), Wd F T C G W H O σ → ∀ B : Ends, EnOk F T C H E B → ts B σ (ov O H)
/-- a target of names -/
def Tg (g : TG) (d : D) (G : Gm) (R : Gm → Prop) : Prop :=
  ∀ (H H1 : Hp) (σ : St) (v : V), Lo F T H G σ → Same H H1 → Den F T H d v → ∀ Q : St → Hp → Prop, (∀ G' σ', R G' → Lo F T H G' σ' → Q σ' H1) → g v σ H1 Q
/-- an iterator over data -/
def Wk (J : It) (H0 : Hp) (ds : List D) : Prop :=
  ∀ (i : Nat) (H O : Hp), Same H0 H → Dis O H →
    (∀ d, ds[i]? = some d → J.go i (ov O H) ∧ ∀ x H2, J.yld i (ov O H) x H2 → ∃ H', Same H H' ∧ Dis O H' ∧ H2 = ov O H' ∧ Den F T H' d x) ∧ (i = ds.length → J.stop i (ov O H))
def EvI (wi : TI) (G : Gm) (W : Om) (R : List D → Om → Prop) : Prop :=
  ∀ (C H O : Hp) (σ : St), Wd F T C G W H O σ → ∀ Q : It → Hp → Prop, (∀ J ds W' H' O', R ds W' → Nx F T C W' H H' O' → Wk F T J H' ds → Q J (ov O' H')) → wi σ (ov O H) Q
end
def E_ (post : D → Om → Prop) : En := { nx := fun _ W => post .non W, rt := post }
section
variable {F : FmKit} {T : Kx} {C H H' O O' : Hp} {G : Gm} {W W' : Om} {σ : St} {E E' : En} {B : Ends}
theorem EnOk.up (h : EnOk F T C H E B) (e : Same H H') : EnOk F T C H' E B :=
  ⟨fun G W H2 O' σ' a n l => h.nx G W H2 O' σ' a ⟨e.trans n.ext, n.dis, n.oc, n.own⟩ l, fun d W H2 O' v a n l => h.rt d W H2 O' v a ⟨e.trans n.ext, n.dis, n.oc, n.own⟩ l,
   fun G W H2 O' σ' a n l => h.bk G W H2 O' σ' a ⟨e.trans n.ext, n.dis, n.oc, n.own⟩ l, fun G W H2 O' σ' a n l => h.ct G W H2 O' σ' a ⟨e.trans n.ext, n.dis, n.oc, n.own⟩ l⟩
variable {te ta tb : TE} {t u : TT} {R R' : D → Om → Prop} {S S' : Bool → Om → Prop} {tr : TA} {ts tz : TS}
theorem Ev.imp (h : Ev F T te G W R) (i : ∀ d W', R d W' → R' d W') : Ev F T te G W R' := fun C H O σ w Q q => h C H O σ w Q fun d W' H' O' v r n k => q d W' H' O' v (i d W' r) n k
theorem EvT.imp (h : EvT F T t G W S) (i : ∀ b W', S b W' → S' b W') : EvT F T t G W S' := fun C H O σ w Q q => h C H O σ w Q fun d W' H' O' r n => q d W' H' O' (i d W' r) n
theorem Sw.imp (h : Sw F T ts G W E) (h1 : ∀ G W, E.nx G W → E'.nx G W) (h2 : ∀ d W, E.rt d W → E'.rt d W) (h3 : ∀ G W, E.bk G W → E'.bk G W) (h4 : ∀ G W, E.ct G W → E'.ct G W) : Sw F T ts G W E' :=
  fun C H O σ w B b => h C H O σ w B ⟨fun G W H' O' σ' a => b.nx G W H' O' σ' (h1 G W a), fun d W H' O' v a => b.rt d W H' O' v (h2 d W a), fun G W H' O' σ' a => b.bk G W H' O' σ' (h3 G W a), fun G W H' O' σ' a => b.ct G W H' O' σ' (h4 G W a)⟩
theorem ev_var {i : Nat} {d : D} (h : G[i]? = some (some d)) (r : R d W) : Ev F T (tVar i) G W R := fun C H O σ w Q q =>
  let ⟨v, e, k⟩ := w.loc.at_ i d h
  ⟨v, e, q d W H O v r w.nx k⟩
theorem ev_c {v : V} (r : R (.vl v) W) : Ev F T (tC v) G W R := fun C H O σ w Q q => q (.vl v) W H O v r w.nx rfl
theorem ev_op {r : R2} (h : Ev F T ta G W fun d1 W1 => Ev F T tb G W1 fun d2 W2 => Bo F T r d1 d2 W2 R) : Ev F T (tOp r ta tb) G W R := fun C H O σ w Q q =>
  h C H O σ w _ fun d1 W1 H1 O1 x h1 n1 k1 => h1 C H1 O1 σ (w.step n1) _ fun d2 W2 H2 O2 y h2 n2 k2 =>
    h2 C H2 O2 n2.dis n2.oc n2.own x y (k1.mono n2.ext) k2 Q fun d W' H' O' v rr n k => q d W' H' O' v rr ((n1.trans n2).trans n) k
theorem ev_cb {r : List V → Hp → VK → Prop} (h : EvA F T tr G W fun ds W1 => Ca F T r ds W1 R) : Ev F T (tCB r tr) G W R := fun C H O σ w Q q =>
  h C H O σ w _ fun ds W1 H1 O1 vs h1 n1 k1 => h1 C H1 O1 n1.dis n1.oc n1.own vs k1 Q fun d W' H' O' v rr n k => q d W' H' O' v rr (n1.trans n) k
theorem ea_nil {Z : List D → Om → Prop} (r : Z [] W) : EvA F T tNil G W Z := fun C H O σ w Q q => q [] W H O [] r w.nx rfl
theorem ea_cons {Z : List D → Om → Prop} (h : Ev F T ta G W fun d W1 => EvA F T tr G W1 fun ds W2 => Z (d :: ds) W2) : EvA F T (tCons ta tr) G W Z := fun C H O σ w Q q =>
  h C H O σ w _ fun d W1 H1 O1 x h1 n1 k1 => h1 C H1 O1 σ (w.step n1) _ fun ds W2 H2 O2 vs h2 n2 k2 => q (d :: ds) W2 H2 O2 (x :: vs) h2 (n1.trans n2) ⟨x, vs, rfl, k1.mono n2.ext, k2⟩
theorem et_test (h : Ev F T te G W fun d W1 => ∃ b, d = .bl b ∧ S b W1) : EvT F T (tTest te) G W S := fun C H O σ w Q q =>
  h C H O σ w _ fun d W1 H1 O1 x ⟨b, e, s⟩ n k => by
    subst e
    have k : x = .bl b := k
    exact ⟨b, k, q b W1 H1 O1 s n⟩
theorem et_B (h : Ev F T te G W fun d W1 => ∃ b, d = .bl b ∧ S b W1) : EvT F T (tB te) G W S := et_test h
theorem et_not (h : EvT F T t G W fun b W1 => S (!b) W1) : EvT F T (tNot t) G W S := fun C H O σ w Q q => h C H O σ w _ fun b W1 H1 O1 s n => q (!b) W1 H1 O1 s n
theorem et_and (h : EvT F T t G W fun b W1 => if b = true then EvT F T u G W1 S else S false W1) : EvT F T (tAnd t u) G W S := fun C H O σ w Q q =>
  h C H O σ w _ fun b W1 H1 O1 s n => by
    cases b with
    | true => exact s C H1 O1 σ (w.step n) _ fun b W2 H2 O2 s2 n2 => q b W2 H2 O2 s2 (n.trans n2)
    | false => exact q false W1 H1 O1 s n
theorem et_or (h : EvT F T t G W fun b W1 => if b = true then S true W1 else EvT F T u G W1 S) : EvT F T (tOr t u) G W S := fun C H O σ w Q q =>
  h C H O σ w _ fun b W1 H1 O1 s n => by
    cases b with
    | true => exact q true W1 H1 O1 s n
    | false => exact s C H1 O1 σ (w.step n) _ fun b W2 H2 O2 s2 n2 => q b W2 H2 O2 s2 (n.trans n2)
theorem ev_andV (h : Ev F T ta G W fun d W1 => ∃ b, d = .bl b ∧ if b = true then Ev F T tb G W1 R else R (.bl false) W1) : Ev F T (tAndV ta tb) G W R := fun C H O σ w Q q =>
  h C H O σ w _ fun d W1 H1 O1 x ⟨b, e, s⟩ n k => by
    subst e
    have k : x = .bl b := k
    refine ⟨b, k, ?_⟩
    cases b with
    | true => exact s C H1 O1 σ (w.step n) _ fun d W2 H2 O2 v s2 n2 k2 => q d W2 H2 O2 v s2 (n.trans n2) k2
    | false => exact q _ W1 H1 O1 _ s n rfl
theorem ev_orV (h : Ev F T ta G W fun d W1 => ∃ b, d = .bl b ∧ if b = true then R (.bl true) W1 else Ev F T tb G W1 R) : Ev F T (tOrV ta tb) G W R := fun C H O σ w Q q =>
  h C H O σ w _ fun d W1 H1 O1 x ⟨b, e, s⟩ n k => by
    subst e
    have k : x = .bl b := k
    refine ⟨b, k, ?_⟩
    cases b with
    | true => exact q _ W1 H1 O1 _ s n rfl
    | false => exact s C H1 O1 σ (w.step n) _ fun d W2 H2 O2 v s2 n2 k2 => q d W2 H2 O2 v s2 (n.trans n2) k2
theorem ev_notV (h : Ev F T ta G W fun d W1 => ∃ b, d = .bl b ∧ R (.bl (!b)) W1) : Ev F T (tNotV ta) G W R := fun C H O σ w Q q =>
  h C H O σ w _ fun d W1 H1 O1 x ⟨b, e, s⟩ n k => by
    subst e
    have k : x = .bl b := k
    exact ⟨b, k, q _ W1 H1 O1 _ s n rfl⟩
theorem ev_if (h : EvT F T t G W fun b W1 => if b = true then Ev F T ta G W1 R else Ev F T tb G W1 R) : Ev F T (tIf t ta tb) G W R := fun C H O σ w Q q =>
  h C H O σ w _ fun b W1 H1 O1 s n => by
    cases b with
    | true => exact s C H1 O1 σ (w.step n) _ fun d W2 H2 O2 v s2 n2 k2 => q d W2 H2 O2 v s2 (n.trans n2) k2
    | false => exact s C H1 O1 σ (w.step n) _ fun d W2 H2 O2 v s2 n2 k2 => q d W2 H2 O2 v s2 (n.trans n2) k2
theorem ev_notN (h : Ev F T ta G W fun d W1 => ∃ b, (∀ H v, Den F T H d v → decide (v = .non) = b) ∧ R (.bl (!b)) W1) : Ev F T (tNotN ta) G W R := fun C H O σ w Q q =>
  h C H O σ w _ fun d W1 H1 O1 x ⟨b, e, s⟩ n k => by
    show Q (.bl (!decide (x = .non))) _
    rw [e _ _ k]
    exact q _ W1 H1 O1 _ s n rfl
theorem op_sc {r : R2} {x y : V} (h : ∀ (H : Hp) (Q : VK), (∀ z, R (.vl z) W → Q z H) → r x y H Q) : Bo F T r (.vl x) (.vl y) W R := fun C H O dis oc own x' y' hx hy Q q => by
  have hx : x' = x := hx
  have hy : y' = y := hy
  subst hx hy
  exact h _ Q fun z rz => q (.vl z) W H O z rz (.refl dis oc own) rfl
theorem cl_sc {r : List V → Hp → VK → Prop} {xs : List V} (h : ∀ (H : Hp) (Q : VK), (∀ z, R (.vl z) W → Q z H) → r xs H Q) : Ca F T r (xs.map D.vl) W R := fun C H O dis oc own vs hv Q q => by
  have hv := DenL.vls_inv hv
  subst hv
  exact h _ Q fun z rz => q (.vl z) W H O z rz (.refl dis oc own) rfl
theorem sw_next (h : E.nx G W) : Sw F T tNext G W E := fun C H O σ w B b => b.nx G W H O σ h w.nx w.loc
theorem sw_brk (h : E.bk G W) : Sw F T tBreak G W E := fun C H O σ w B b => b.bk G W H O σ h w.nx w.loc
theorem sw_cont (h : E.ct G W) : Sw F T tCont G W E := fun C H O σ w B b => b.ct G W H O σ h w.nx w.loc
theorem sw_seq (h : Sw F T ts G W { E with nx := fun G' W' => Sw F T tz G' W' E }) : Sw F T (tSeq ts tz) G W E := fun C H O σ w B b =>
  h C H O σ w { B with nx := tz B } ⟨fun G' W' H' O' σ' a n l => a C H' O' σ' ⟨n.dis, n.oc, l, n.own⟩ B (b.up n.ext), b.rt, b.bk, b.ct⟩
theorem sw_drop (h : Ev F T te G W fun _ W' => E.nx G W') : Sw F T (tDrop te) G W E := fun C H O σ w B b =>
  h C H O σ w _ fun d W' H' O' v r n k => b.nx G W' H' O' σ r n (w.loc.mono n.ext)
theorem sw_ret (h : Ev F T te G W E.rt) : Sw F T (tRet te) G W E := fun C H O σ w B b =>
  h C H O σ w _ fun d W' H' O' v r n k => b.rt d W' H' O' v r n k
theorem sw_retN (h : E.rt .non W) : Sw F T tRetN G W E := fun C H O σ w B b => b.rt .non W H O .non h w.nx rfl
theorem sw_if (h : EvT F T t G W fun c W' => if c = true then Sw F T ts G W' E else Sw F T tz G W' E) : Sw F T (tIfS t ts tz) G W E := fun C H O σ w B b =>
  h C H O σ w _ fun c W' H' O' r n => by
    cases c with
    | true => exact r C H' O' σ (w.step n) B (b.up n.ext)
    | false => exact r C H' O' σ (w.step n) B (b.up n.ext)
theorem sw_set {i : Nat} (h : Ev F T te G W fun d W' => E.nx (G.set i (some d)) W') : Sw F T (tAsg te (gName i)) G W E := fun C H O σ w B b =>
  h C H O σ w _ fun d W' H' O' v r n k => b.nx _ W' H' O' _ r n ((w.loc.mono n.ext).set k)
theorem sw_par {i j : Nat} {ta : TA} (h : EvA F T ta G W fun ds W' => ∃ d1 d2, ds = [d1, d2] ∧ E.nx ((G.set i (some d1)).set j (some d2)) W') : Sw F T (tPar i j ta) G W E := fun C H O σ w B b =>
  h C H O σ w _ fun ds W' H' O' vs ⟨d1, d2, e, r⟩ n k => by
    subst e
    obtain ⟨v1, r1, e1, k1, v2, r2, e2, k2, e3⟩ := k
    have e3 : r2 = [] := e3
    subst e3 e2 e1
    exact ⟨v1, v2, rfl, b.nx _ W' H' O' _ r n (((w.loc.mono n.ext).set k1).set k2)⟩
theorem tg_name {i : Nat} {d : D} {Z : Gm → Prop} (h : Z (G.set i (some d))) : Tg F T (gName i) d G Z := fun H H1 σ v l _ k Q q => q _ _ h (l.set k)
def Tgs (F : FmKit) (T : Kx) (g : TGs) (ds : List D) (G : Gm) (R : Gm → Prop) : Prop :=
  ∀ (H H1 : Hp) (σ : St) (vs : List V), Lo F T H G σ → Same H H1 → DenL F T H ds vs → ∀ Q : St → Hp → Prop, (∀ G' σ', R G' → Lo F T H G' σ' → Q σ' H1) → g vs σ H1 Q
theorem tgs_nil {Z : Gm → Prop} (h : Z G) : Tgs F T gNil [] G Z := fun H H1 σ v l _ k Q q => ⟨k, q _ _ h l⟩
theorem tgs_cons {g : TG} {gs : TGs} {d : D} {ds : List D} {Z : Gm → Prop} (h : Tg F T g d G fun G' => Tgs F T gs ds G' Z) : Tgs F T (gCons g gs) (d :: ds) G Z := fun H H1 σ vs l e k Q q => by
  obtain ⟨v, r, ev, k1, k2⟩ := k
  exact ⟨v, r, ev, h H H1 σ v l e k1 _ fun G' σ' hh l' => hh H H1 σ' r l' e k2 Q q⟩
theorem tg_tup {n : Nat} {gs : TGs} {ds : List D} {Z : Gm → Prop} (hn : ds.length = n) (h : Tgs F T gs ds G Z) : Tg F T (gTup T.K n gs) (.tup ds) G Z := fun H H1 σ v l e k Q q => by
  obtain ⟨a, xs, ev, hs, kl⟩ := k
  exact ⟨a, xs, ev, Same.sqT e hs, by rw [kl.len, hn], h H H1 σ xs l e kl Q q⟩
theorem sw_for {wi : TI} {g : TG} (h : EvI F T wi G W fun ds W1 => ∃ I : Nat → Gm → Om → Prop, I 0 G W1 ∧
      (∀ i d G' W', ds[i]? = some d → I i G' W' → Tg F T g d G' fun G2 => Sw F T ts G2 W' { E with nx := I (i + 1), ct := I (i + 1), bk := E.nx }) ∧ (∀ G' W', I ds.length G' W' → E.nx G' W')) :
    Sw F T (tFor wi g ts) G W E := fun C H O σ w B b =>
  h C H O σ w _ fun J ds W1 H1 O1 ⟨I, i0, turn, fin⟩ n1 wk => by
    refine ⟨fun i m σ' X => m = ds.length - i ∧ i ≤ ds.length ∧ ∃ G' W' H' O', X = ov O' H' ∧ Nx F T C W' H1 H' O' ∧ Lo F T H' G' σ' ∧ I i G' W', ⟨ds.length, by simp, Nat.zero_le _, G, W1, H1, O1, rfl, ⟨Same.refl _, n1.dis, n1.oc, n1.own⟩, w.loc.mono n1.ext, i0⟩, ?_⟩
    rintro i m σ' X ⟨rfl, hi, G', W', H', O', rfl, n, l, ii⟩
    have k := wk i H' O' n.ext n.dis
    by_cases hlt : i < ds.length
    · obtain ⟨k1, k2⟩ := k.1 ds[i] (by simp [hlt])
      refine .inr ⟨k1, fun σ2 X2 => ∃ G2 W2 H2 O2, X2 = ov O2 H2 ∧ Nx F T C W2 H1 H2 O2 ∧ Lo F T H2 G2 σ2 ∧ I (i + 1) G2 W2, fun σ2 X2 ⟨G2, W2, H2, O2, e, n2, l2, i2⟩ => ⟨ds.length - (i + 1), by omega, rfl, hlt, G2, W2, H2, O2, e, n2, l2, i2⟩, fun x X2 y => ?_⟩
      obtain ⟨H2, s2, d2, rfl, kx⟩ := k2 x X2 y
      refine turn i ds[i] G' W' (by simp [hlt]) ii H2 _ σ' x (l.mono s2) d2.same kx _ fun G3 σ3 sw l3 => ?_
      refine sw C H2 O' σ3 ⟨d2, n.oc, l3, n.own.mono s2⟩ _ ⟨fun G4 W4 H4 O4 σ4 a n4 l4 => ⟨G4, W4, H4, O4, rfl, ⟨(n.ext.trans s2).trans n4.ext, n4.dis, n4.oc, n4.own⟩, l4, a⟩, ?_, ?_, fun G4 W4 H4 O4 σ4 a n4 l4 => ⟨G4, W4, H4, O4, rfl, ⟨(n.ext.trans s2).trans n4.ext, n4.dis, n4.oc, n4.own⟩, l4, a⟩⟩
      · exact fun d W4 H4 O4 v a n4 k4 => b.rt d W4 H4 O4 v a ⟨((n1.ext.trans n.ext).trans s2).trans n4.ext, n4.dis, n4.oc, n4.own⟩ k4
      · exact fun G4 W4 H4 O4 σ4 a n4 l4 => b.nx G4 W4 H4 O4 σ4 a ⟨((n1.ext.trans n.ext).trans s2).trans n4.ext, n4.dis, n4.oc, n4.own⟩ l4
    · have e : i = ds.length := by omega
      subst e
      exact .inl ⟨k.2 rfl, b.nx G' W' H' O' σ' (fin G' W' ii) ⟨n1.ext.trans n.ext, n.dis, n.oc, n.own⟩ l⟩
/-- while, by a measure -/
theorem sw_while (I : Nat → Gm → Om → Prop) (m0 : Nat) (i0 : I m0 G W)
    (turn : ∀ m G' W', I m G' W' → EvT F T t G' W' fun c W2 => if c = true then Sw F T ts G' W2 { E with nx := fun G3 W3 => ∃ m', m' < m ∧ I m' G3 W3, ct := fun G3 W3 => ∃ m', m' < m ∧ I m' G3 W3, bk := E.nx } else E.nx G' W2) :
    Sw F T (tWhile t ts) G W E := fun C H O σ w B b => by
  refine ⟨fun m σ' X => ∃ G' W' H' O', X = ov O' H' ∧ Nx F T C W' H H' O' ∧ Lo F T H' G' σ' ∧ I m G' W', ⟨m0, G, W, H, O, rfl, w.nx, w.loc, i0⟩, ?_⟩
  rintro m σ' X ⟨G', W', H', O', rfl, n, l, ii⟩
  refine turn m G' W' ii C H' O' σ' ⟨n.dis, n.oc, l, n.own⟩ _ fun c W2 H2 O2 r n2 => ?_
  cases c with
  | true =>
    refine ⟨fun σ3 X3 => ∃ G3 W3 H3 O3, X3 = ov O3 H3 ∧ Nx F T C W3 H H3 O3 ∧ Lo F T H3 G3 σ3 ∧ ∃ m', m' < m ∧ I m' G3 W3, fun σ3 X3 ⟨G3, W3, H3, O3, e, n3, l3, m', hm, i3⟩ => ⟨m', hm, G3, W3, H3, O3, e, n3, l3, i3⟩, ?_⟩
    exact r C H2 O2 σ' ⟨n2.dis, n2.oc, l.mono n2.ext, n2.own⟩ _ ⟨fun G4 W4 H4 O4 σ4 a n4 l4 => ⟨G4, W4, H4, O4, rfl, (n.trans n2).trans n4, l4, a⟩, fun d W4 H4 O4 v a n4 k4 => b.rt d W4 H4 O4 v a ((n.trans n2).trans n4) k4,
      fun G4 W4 H4 O4 σ4 a n4 l4 => b.nx G4 W4 H4 O4 σ4 a ((n.trans n2).trans n4) l4, fun G4 W4 H4 O4 σ4 a n4 l4 => ⟨G4, W4, H4, O4, rfl, (n.trans n2).trans n4, l4, a⟩⟩
  | false => exact b.nx G' W2 H2 O2 σ' r (n.trans n2) (l.mono n2.ext)
end
end N
set_option Elab.async false
set_option linter.all false
set_option maxRecDepth 100000
namespace N
open PySem L2
section
variable {F : FmKit} {T : Kx} {C H H' O O' : Hp} {G : Gm} {W W' : Om} {σ : St} {a p : Addr} {od : OD} {d : D} {l : List D}
theorem Ow.sub {W2 : Om} (o : Ow F T H C O W) (h : W2.Sublist W) : Ow F T H C O W2 := ⟨o.nd.sublist (h.map _), fun a od m => o.at_ a od (h.subset m)⟩
theorem Ow.perm {W2 : Om} (o : Ow F T H C O W) (h : W.Perm W2) : Ow F T H C O W2 := ⟨(h.map _).nodup_iff.mp o.nd, fun a od m => o.at_ a od (h.mem_iff.mpr m)⟩
theorem Ow.tail {x : Addr × OD} (o : Ow F T H C O (x :: W)) : Ow F T H C O W := o.sub (List.sublist_cons_self x W)
theorem akeys_cons {x : Addr × OD} : akeys (x :: W) = x.1 :: akeys W := rfl
theorem mem_akeys {x : Addr × OD} (h : x ∈ W) : x.1 ∈ akeys W := List.mem_map.mpr ⟨x, h, rfl⟩
/-- a new owned cell -/
theorem Nx.newO {o : HO} (n : Nx F T C W H H' O') (hp : ov O' H' p = none) (h : OdAt F T H' (some o) od) : Nx F T C ((p, od) :: W) H H' (upd O' p o) ∧ upd (ov O' H') p o = ov (upd O' p o) H' ∧ p ∉ akeys W := by
  obtain ⟨h1, h2⟩ := ov_none hp
  have np := n.own.notin h1
  have cp : C p = none := by
    cases e : C p with
    | none => rfl
    | some x =>
      rw [n.oc p x e] at h1
      cases h1
  refine ⟨⟨n.ext, n.dis.updO h2, fun b x e => ?_, ⟨List.nodup_cons.mpr ⟨np, n.own.nd⟩, fun b ob m => ?_⟩⟩, ov_updO, np⟩
  · rw [upd_ne (ne_of_none e cp)]
    exact n.oc b x e
  · rcases List.mem_cons.mp m with e | m
    · obtain ⟨rfl, rfl⟩ := Prod.mk.inj e
      rw [upd_same]
      exact ⟨cp, h⟩
    · have : b ≠ p := fun q => np (q ▸ mem_akeys (x := (b, ob)) m)
      rw [upd_ne this]
      exact n.own.at_ b ob m
/-- a new frozen cell -/
theorem Nx.newF {o : HO} (n : Nx F T C W H H' O') (hp : ov O' H' p = none) : Nx F T C W H (upd H' p o) O' ∧ upd (ov O' H') p o = ov O' (upd H' p o) ∧ Same H' (upd H' p o) := by
  obtain ⟨h1, h2⟩ := ov_none hp
  have e := same_upd (o := o) h2
  exact ⟨⟨n.ext.trans e, n.dis.updH h1, n.oc, n.own.mono e⟩, ov_updH h1, e⟩
/-- an owned cell is written -/
theorem Nx.write {o : HO} {od2 : OD} {W1 W2 : Om} (n : Nx F T C (W1 ++ (p, od) :: W2) H H' O') (h : OdAt F T H' (some o) od2) : Nx F T C (W1 ++ (p, od2) :: W2) H H' (upd O' p o) ∧ upd (ov O' H') p o = ov (upd O' p o) H' := by
  have hm : (p, od) ∈ W1 ++ (p, od) :: W2 := by simp
  obtain ⟨cp, x⟩ := n.own.at_ p od hm
  obtain ⟨u, eu⟩ := x.some
  have nd := n.own.nd
  have ndk : (akeys (W1 ++ (p, od2) :: W2)) = akeys (W1 ++ (p, od) :: W2) := by simp [akeys]
  refine ⟨⟨n.ext, n.dis.updO (n.dis p u eu), fun b x e => ?_, ⟨by rw [ndk]; exact nd, fun b ob m => ?_⟩⟩, ov_updO⟩
  · rw [upd_ne (ne_of_none e cp)]
    exact n.oc b x e
  · by_cases q : b = p
    · subst q
      have : ob = od2 := by
        have nd2 : (akeys (W1 ++ (b, od2) :: W2)).Nodup := by rw [ndk]; exact nd
        have hu : ∀ (W : Om) (x y : OD), (akeys W).Nodup → (b, x) ∈ W → (b, y) ∈ W → x = y := by
          intro W
          induction W with
          | nil => intro x y _ h; simp at h
          | cons z W ih =>
            intro x y hn hx hy
            rw [akeys_cons, List.nodup_cons] at hn
            rcases List.mem_cons.mp hx with ex | hx
            · rcases List.mem_cons.mp hy with ey | hy
              · rw [← ex] at ey
                exact (Prod.mk.inj ey).2.symm
              · exact absurd (by rw [← ex]; exact mem_akeys (x := (b, y)) hy) hn.1
            · rcases List.mem_cons.mp hy with ey | hy
              · exact absurd (by rw [← ey]; exact mem_akeys (x := (b, x)) hx) hn.1
              · exact ih x y hn.2 hx hy
        exact hu _ ob od2 nd2 m (by simp)
      subst this
      rw [upd_same]
      exact ⟨cp, h⟩
    · rw [upd_ne q]
      refine n.own.at_ b ob ?_
      rcases List.mem_append.mp m with m | m
      · exact List.mem_append_left _ m
      · rcases List.mem_cons.mp m with e | m
        · exact absurd (Prod.mk.inj e).1 q
        · exact List.mem_append_right _ (List.mem_cons_of_mem _ m)
def partsD : Fm → List D
  | .at c => [.str ⟨#[c]⟩]
  | .no => []
  | .imp a b => [.fm a, .fm b]
  | .all a => [.fm a]
def AllsD (a : Addr) (f : Fm) : List D → List Fm → Prop
  | [], fs => fs = []
  | d :: ds, fs => ∃ g r, fs = g :: r ∧ (d = .fm g ∨ (d = .adr a ∧ g = f)) ∧ AllsD a f ds r
inductive Fzd (F : FmKit) (a : Addr) : OD → D → Prop
  | lst (l : List D) : Fzd F a (.lst l) (.lst l)
  | dct (ks : List Key) (l : List D) : Fzd F a (.dct ks l) (.dct ks l)
  | obj (c : Nat) (ns : List Str) (l : List D) : Fzd F a (.ins c ns l) (.obj c ns l)
  | nk (w : World) (ks : List (NestedKey × D)) : Fzd F a (.nk w a ks) (.nkd w (ks.map (·.1)) (ks.map (·.2)))
  | fm (f : Fm) (al : List D) : AllsD a f al (F.alls f) → Fzd F a (.ins 0 fmNames [.str (F.kind f), .tup (partsD f), .int (F.many f), .int (F.deep f), .str (F.atoms f), .str (F.bare f), .str (F.spell f), .tup al]) (.fm f)
theorem parts_of {R : Addr → Fm → Prop} (hR : ∀ b g, FormAt F T H b g → R b g) : ∀ {f : Fm} {xs : List V}, DenL F T H (partsD f) xs → PartsR R f xs
  | .at c, xs, h => DenL.vls_inv (ws := [.str ⟨#[c]⟩]) h
  | .no, xs, h => h
  | .imp a b, xs, ⟨v, r, e, ⟨p, e1, h1⟩, u, s, e2, ⟨q, e3, h3⟩, e4⟩ => by
    have e4 : s = [] := e4
    subst e e1 e2 e3 e4
    exact ⟨p, q, rfl, hR _ _ h1, hR _ _ h3⟩
  | .all a, xs, ⟨v, r, e, ⟨p, e1, h1⟩, e2⟩ => by
    have e2 : r = [] := e2
    subst e e1 e2
    exact ⟨p, rfl, hR _ _ h1⟩
theorem alls_of {R : Addr → Fm → Prop} {f : Fm} (hR : ∀ b g, FormAt F T H b g → R b g) (ha : R a f) : ∀ {al : List D} {xs : List V} {fs : List Fm}, AllsD a f al fs → DenL F T H al xs → ∃ as : List Addr, xs = as.map V.ref ∧ AllR R as fs
  | [], xs, fs, h, k => ⟨[], k, h⟩
  | d :: ds, xs, fs, ⟨g, r, e, hd, ht⟩, ⟨v, rv, e1, k1, k2⟩ => by
    obtain ⟨as, e2, h2⟩ := alls_of hR ha ht k2
    subst e e1 e2
    rcases hd with hd | ⟨hd, hg⟩
    · subst hd
      obtain ⟨b, e3, h3⟩ := k1
      subst e3
      exact ⟨b :: as, rfl, g, r, rfl, hR _ _ h3, h2⟩
    · subst hd hg
      have k1 : v = .ref a := k1
      subst k1
      exact ⟨a :: as, rfl, g, r, rfl, ha, h2⟩
theorem lcons {α : Type} {n : α} {ns : List α} : ∀ {fs : List (α × V)}, fs.map (·.1) = n :: ns → ∃ v r, fs = (n, v) :: r ∧ r.map (·.1) = ns
  | [], h => by simp at h
  | (m, v) :: r, h => by
    rw [List.map_cons] at h
    injection h with h1 h2
    exact ⟨v, r, by rw [← h1], h2⟩
theorem Fzd.den (z : Fzd F a od d) (h : OdAt F T H (O a) od) (hn : H a = none) : ∃ o, O a = some o ∧ Den F T (upd H a o) d (.ref a) := by
  cases z with
  | lst l =>
    obtain ⟨xs, e, k⟩ := h
    exact ⟨_, e, a, xs, rfl, upd_same, k.mono (same_upd hn)⟩
  | dct ks l =>
    obtain ⟨kvs, e, h1, h2, k⟩ := h
    exact ⟨_, e, a, kvs, rfl, upd_same, h1, h2, k.mono (same_upd hn)⟩
  | obj c ns l =>
    obtain ⟨dx, fs, e, h1, k⟩ := h
    exact ⟨_, e, a, dx, fs, rfl, upd_same, h1, k.mono (same_upd hn)⟩
  | nk w ks =>
    obtain ⟨as, e, h1, h2, h3, k⟩ := h
    exact ⟨_, e, a, as, rfl, upd_same, h1, h2, fun z hz => ⟨NkV.mono (same_upd hn) _ _ (h3 z hz).1, (h3 z hz).2⟩, k.mono (same_upd hn)⟩
  | fm f al hal =>
    obtain ⟨dx, fs, e, h1, k⟩ := h
    refine ⟨_, e, a, rfl, ?_⟩
    obtain ⟨v1, r1, g1, w1⟩ := lcons h1
    subst g1
    obtain ⟨v2, r2, g2, w2⟩ := lcons w1
    subst g2
    obtain ⟨v3, r3, g3, w3⟩ := lcons w2
    subst g3
    obtain ⟨v4, r4, g4, w4⟩ := lcons w3
    subst g4
    obtain ⟨v5, r5, g5, w5⟩ := lcons w4
    subst g5
    obtain ⟨v6, r6, g6, w6⟩ := lcons w5
    subst g6
    obtain ⟨v7, r7, g7, w7⟩ := lcons w6
    subst g7
    obtain ⟨v8, r8, g8, w8⟩ := lcons w7
    subst g8
    have w9 : r8 = [] := List.map_eq_nil_iff.mp w8
    subst w9
    have k := k.mono (same_upd (o := .ins (T.cl 0) dx [("kind", v1), ("parts", v2), ("many", v3), ("deepest", v4), ("atoms", v5), ("bare", v6), ("spelled", v7), ("alls_known", v8)]) hn)
    obtain ⟨_, _, q1, k1, _, _, q2, k2, _, _, q3, k3, _, _, q4, k4, _, _, q5, k5, _, _, q6, k6, _, _, q7, k7, _, _, q8, k8, _⟩ := k
    simp only [List.map_cons, List.map_nil, List.cons.injEq] at q1 q2 q3 q4 q5 q6 q7 q8
    obtain ⟨rfl, rfl⟩ := q1
    obtain ⟨rfl, rfl⟩ := q2
    obtain ⟨rfl, rfl⟩ := q3
    obtain ⟨rfl, rfl⟩ := q4
    obtain ⟨rfl, rfl⟩ := q5
    obtain ⟨rfl, rfl⟩ := q6
    obtain ⟨rfl, rfl⟩ := q7
    obtain ⟨rfl, rfl⟩ := q8
    have k1 : v1 = .str (F.kind f) := k1
    obtain ⟨pa, ps, ep, hp, kp⟩ := k2
    have k3 : v3 = .int (F.many f) := k3
    have k4 : v4 = .int (F.deep f) := k4
    have k5 : v5 = .str (F.atoms f) := k5
    have k6 : v6 = .str (F.bare f) := k6
    have k7 : v7 = .str (F.spell f) := k7
    obtain ⟨aa, as, ea, ha, ka⟩ := k8
    subst k1 ep k3 k4 k5 k6 k7 ea
    obtain ⟨bs, eb, hb⟩ := alls_of (R := fun b g => FormAt F T (upd H a (.ins (T.cl 0) dx (fmFields F f pa aa))) b g ∨ (b = a ∧ g = f)) (fun b g x => .inl x) (.inr ⟨rfl, rfl⟩) hal ka
    subst eb
    exact FormAt.mk ⟨dx, pa, ps, aa, bs, upd_same, hp, parts_of (fun b g x => .inl x) kp, ha, hb⟩
/-- what may be taken in the place of d -/
def Fz (F : FmKit) (R : D → Om → Prop) : D → Om → Prop := fun d W => ∃ a od W2 d', d = .adr a ∧ W.Perm ((a, od) :: W2) ∧ Fzd F a od d' ∧ R d' W2
theorem Nx.freeze {W2 : Om} {d' : D} (n : Nx F T C W H H' O') (hp : W.Perm ((a, od) :: W2)) (z : Fzd F a od d') : ∃ o, O' a = some o ∧ Nx F T C W2 H (upd H' a o) (del O' a) ∧ ov O' H' = ov (del O' a) (upd H' a o) ∧ Den F T (upd H' a o) d' (.ref a) ∧ Same H' (upd H' a o) := by
  have ow := n.own.perm hp
  obtain ⟨ca, oa⟩ := ow.at_ a od (by simp)
  obtain ⟨u, eu⟩ := oa.some
  have hn : H' a = none := n.dis a u eu
  obtain ⟨o, eo, k⟩ := z.den (O := O') oa hn
  have e := same_upd (o := o) hn
  have nd := ow.nd
  rw [akeys_cons, List.nodup_cons] at nd
  refine ⟨o, eo, ⟨n.ext.trans e, n.dis.freeze, fun b x q => ?_, ⟨nd.2, fun b ob m => ?_⟩⟩, ov_freeze eo, k, e⟩
  · rw [del_ne (ne_of_none q ca)]
    exact n.oc b x q
  · have hb : b ≠ a := fun q => nd.1 (q ▸ mem_akeys (x := (b, ob)) m)
    rw [del_ne hb]
    obtain ⟨h1, h2⟩ := ow.at_ b ob (List.mem_cons_of_mem _ m)
    exact ⟨h1, h2.mono e⟩
end
section
variable {F : FmKit} {T : Kx} {C H H' O O' : Hp} {G : Gm} {W W' : Om} {σ : St} {a p : Addr} {od : OD} {d : D} {l : List D}
  {te ta tb : TE} {t u : TT} {R R' : D → Om → Prop} {S S' : Bool → Om → Prop} {tr : TA} {ts tz : TS} {E E' : En}
theorem ev_fz (h : Ev F T te G W (Fz F R)) : Ev F T te G W R := fun C H O σ w Q q => h C H O σ w Q fun d W' H' O' v ⟨a, od, W2, d', e, hp, z, r⟩ n k => by
  subst e
  have k : v = .ref a := k
  subst k
  obtain ⟨o, _, n2, eo, k2, _⟩ := n.freeze hp z
  rw [eo]
  exact q d' W2 _ _ _ r n2 k2
theorem ca_fz {r : List V → Hp → VK → Prop} {ds : List D} (h : Ca F T r ds W (Fz F R)) : Ca F T r ds W R := fun C H O di oc ow xs hx Q q => h C H O di oc ow xs hx Q fun d W' H' O' v ⟨a, od, W2, d', e, hp, z, r⟩ n k => by
  subst e
  have k : v = .ref a := k
  subst k
  obtain ⟨o, _, n2, eo, k2, _⟩ := n.freeze hp z
  rw [eo]
  exact q d' W2 _ _ _ r n2 k2
theorem sw_drp {W2 : Om} (hs : W2.Sublist W) (h : Sw F T ts G W2 E) : Sw F T ts G W E := fun C H O σ w B b => h C H O σ ⟨w.dis, w.oc, w.loc, w.own.sub hs⟩ B b
theorem sw_perm {W2 : Om} (hs : W.Perm W2) (h : Sw F T ts G W2 E) : Sw F T ts G W E := fun C H O σ w B b => h C H O σ ⟨w.dis, w.oc, w.loc, w.own.perm hs⟩ B b
theorem ev_tup (h : EvA F T tr G W fun ds W1 => ds.length ≤ sizeLine ∧ R (.tup ds) W1) : Ev F T (tTup tr) G W R := fun C H O σ w Q q =>
  h C H O σ w _ fun ds W1 H1 O1 vs ⟨hl, r⟩ n k => ⟨by rw [k.len]; exact hl, fun p hp => by
    obtain ⟨n2, e, s⟩ := n.newF (o := .tup vs) hp
    rw [e]
    exact q (.tup ds) W1 _ _ _ r n2 ⟨p, vs, rfl, SqT.of upd_same, k.mono s⟩⟩
/-- .. frozen at once -/
theorem ev_lstF (h : EvA F T tr G W fun ds W1 => ds.length ≤ sizeLine ∧ R (.lst ds) W1) : Ev F T (tLst tr) G W R := fun C H O σ w Q q =>
  h C H O σ w _ fun ds W1 H1 O1 vs ⟨hl, r⟩ n k => ⟨by rw [k.len]; exact hl, fun p hp => by
    obtain ⟨n2, e, s⟩ := n.newF (o := .lst vs) hp
    rw [e]
    exact q (.lst ds) W1 _ _ _ r n2 ⟨p, vs, rfl, upd_same, k.mono s⟩⟩
/-- d is a list of l: frozen, or owned -/
def Vl (W : Om) (d : D) (l : List D) : Prop := (d = .lst l ∨ ∃ vs, d = .scr vs ∧ l = vs.map .vl) ∨ ∃ a, d = .adr a ∧ (a, .lst l) ∈ W
def Vs (W : Om) (d : D) (l : List D) : Prop := Vl W d l ∨ d = .tup l
theorem Vl.sq {x : V} (o : Ow F T H C O W) (di : Dis O H) (h : Vl W d l) (k : Den F T H d x) : ∃ a xs, x = .ref a ∧ SqL T.K (ov O H) a xs ∧ DenL F T H l xs := by
  rcases h with (rfl | ⟨vs, rfl, rfl⟩) | ⟨a, rfl, m⟩
  · obtain ⟨a, xs, e, hs, kl⟩ := k
    exact ⟨a, xs, e, SqL.of (di.same _ _ hs), kl⟩
  · obtain ⟨a, e, hs⟩ := k
    exact ⟨a, vs, e, di.same.seq hs, .vls vs⟩
  · obtain ⟨_, xs, e, kl⟩ := o.at_ a _ m
    exact ⟨a, xs, k, SqL.of (ov_own e), kl⟩
/-- a list that the program has made -/
def Vt (W : Om) (d : D) (l : List D) : Prop := d = .lst l ∨ ∃ a, d = .adr a ∧ (a, .lst l) ∈ W
theorem Vt.vl (h : Vt W d l) : Vl W d l := h.elim (fun h => .inl (.inl h)) .inr
theorem Vt.at {x : V} (o : Ow F T H C O W) (di : Dis O H) (h : Vt W d l) (k : Den F T H d x) : ∃ a xs, x = .ref a ∧ ov O H a = some (.lst xs) ∧ DenL F T H l xs := by
  rcases h with rfl | ⟨a, rfl, m⟩
  · obtain ⟨a, xs, e, hs, kl⟩ := k
    exact ⟨a, xs, e, di.same _ _ hs, kl⟩
  · obtain ⟨_, xs, e, kl⟩ := o.at_ a _ m
    exact ⟨a, xs, k, ov_own e, kl⟩
theorem Vs.sq {x : V} (o : Ow F T H C O W) (di : Dis O H) (h : Vs W d l) (k : Den F T H d x) : ∃ a xs, x = .ref a ∧ (SqL T.K (ov O H) a xs ∨ SqT T.K (ov O H) a xs) ∧ DenL F T H l xs := by
  rcases h with h | rfl
  · obtain ⟨a, xs, e, hs, kl⟩ := h.sq o di k
    exact ⟨a, xs, e, .inl hs, kl⟩
  · obtain ⟨a, xs, e, hs, kl⟩ := k
    exact ⟨a, xs, e, .inr (Same.sqT di.same hs), kl⟩
theorem ca_one {r : List V → Hp → VK → Prop} {d : D} (h : ∀ (C H O : Hp), Dis O H → Same C O → Ow F T H C O W → ∀ x, Den F T H d x → ∀ Q : VK, (∀ d W' H' O' v, R d W' → Nx F T C W' H H' O' → Den F T H' d v → Q v (ov O' H')) → r [x] (ov O H) Q) : Ca F T r [d] W R := fun C H O di oc ow vs k Q q => by
  obtain ⟨v, r', e, k1, e2⟩ := k
  have e2 : r' = [] := e2
  subst e e2
  exact h C H O di oc ow v k1 Q q
theorem ca_two {r : List V → Hp → VK → Prop} {d e : D} (h : ∀ (C H O : Hp), Dis O H → Same C O → Ow F T H C O W → ∀ x y, Den F T H d x → Den F T H e y → ∀ Q : VK, (∀ d W' H' O' v, R d W' → Nx F T C W' H H' O' → Den F T H' d v → Q v (ov O' H')) → r [x, y] (ov O H) Q) : Ca F T r [d, e] W R := fun C H O di oc ow vs k Q q => by
  obtain ⟨v, r', e1, k1, u, r2, e2, k2, e3⟩ := k
  have e3 : r2 = [] := e3
  subst e3 e2 e1
  exact h C H O di oc ow v u k1 k2 Q q
/-- len of a list or a tuple -/
theorem ca_len (hv : Vs W d l) (r : R (.int l.length) W) : Ca F T (fun xs H Q => ∃ x n, xs = [x] ∧ LenV T.K x H n ∧ Q (.int (n : Nat)) H) [d] W R := ca_one fun C H O di oc ow x k Q q => by
  obtain ⟨a, xs, e, hs, kl⟩ := hv.sq ow di k
  subst e
  refine ⟨_, xs.length, rfl, ?_, ?_⟩
  · exact hs.elim (fun h => .inl ⟨xs, h, rfl⟩) fun h => .inr ⟨xs, h, rfl⟩
  · rw [kl.len]
    exact q (.int l.length) W H O _ r (.refl di oc ow) rfl
theorem ca_lenS {s : Str} (hl : s.length ≤ sizeLine) (r : R (.int s.length) W) : Ca F T (fun xs H Q => ∃ x n, xs = [x] ∧ LenV T.K x H n ∧ Q (.int (n : Nat)) H) [.str s] W R := ca_one fun C H O di oc ow x k Q q => by
  have k : x = .str s := k
  subst k
  exact ⟨_, s.length, rfl, ⟨hl, rfl⟩, q (.int s.length) W H O _ r (.refl di oc ow) rfl⟩
/-- list(..) -/
theorem ca_list (hv : Vs W d l) (r : ∀ p, p ∉ akeys W → R (.adr p) ((p, .lst l) :: W)) : Ca F T (fun xs H Q => ∃ p ys, xs = [.ref p] ∧ (SqL T.K H p ys ∨ SqT T.K H p ys) ∧ ∀ q, H q = none → Q (.ref q) (upd H q (.lst ys))) [d] W R := ca_one fun C H O di oc ow x k Q q => by
  obtain ⟨a, xs, e, hs, kl⟩ := hv.sq ow di k
  subst e
  refine ⟨a, xs, rfl, hs, fun p hp => ?_⟩
  obtain ⟨n2, e, np⟩ := (Nx.refl di oc ow).newO (od := .lst l) (o := .lst xs) hp ⟨xs, rfl, kl⟩
  rw [e]
  exact q (.adr p) _ _ _ _ (r p np) n2 rfl
/-- tuple(list) -/
theorem ca_tup (hv : Vl W d l) (r : R (.tup l) W) : Ca F T (fun xs H Q => ∃ p ys, xs = [.ref p] ∧ ((SqL T.K H p ys ∧ ∀ q, H q = none → Q (.ref q) (upd H q (.tup ys))) ∨ (SqT T.K H p ys ∧ Q (.ref p) H))) [d] W R := ca_one fun C H O di oc ow x k Q q => by
  obtain ⟨a, xs, e, hs, kl⟩ := hv.sq ow di k
  subst e
  refine ⟨a, xs, rfl, .inl ⟨hs, fun p hp => ?_⟩⟩
  obtain ⟨n2, e, s⟩ := (Nx.refl di oc ow).newF (o := .tup xs) hp
  rw [e]
  exact q (.tup l) W _ _ _ r n2 ⟨p, xs, rfl, SqT.of upd_same, kl.mono s⟩
theorem atI_len {α β : Type} {xs : List α} {ys : List β} {i : Int} {y : β} (hl : xs.length = ys.length) (h : atI ys i = some y) : ∃ j : Nat, ys[j]? = some y ∧ ∀ x, xs[j]? = some x → atI xs i = some x := by
  unfold atI at h ⊢
  rw [hl]
  cases e : ixN ys.length i with
  | none =>
    rw [e] at h
    cases h
  | some j =>
    rw [e] at h
    exact ⟨j, h, fun x hx => hx⟩
theorem DenL.atI {l : List D} {xs : List V} {i : Int} {d : D} (k : DenL F T H l xs) (h : atI l i = some d) : ∃ v, L2.atI xs i = some v ∧ Den F T H d v := by
  obtain ⟨j, hj, f⟩ := atI_len (xs := xs) k.len h
  obtain ⟨v, hv, kv⟩ := k.get hj
  exact ⟨v, f v hv, kv⟩
theorem bo_ixL {i : Int} {z : D} (hv : Vl W d l) (hi : atI l i = some z) (r : R z W) : Bo F T (rIxL T.K) d (.int i) W R := fun C H O di oc ow x y hx hy Q q => by
  obtain ⟨a, xs, e, hs, kl⟩ := hv.sq ow di hx
  have hy : y = .int i := hy
  obtain ⟨v, ev, kv⟩ := kl.atI hi
  subst e hy
  exact ⟨a, xs, i, v, rfl, rfl, hs, ev, q z W H O v r (.refl di oc ow) kv⟩
theorem bo_ixT {i : Int} {z : D} (hi : atI l i = some z) (r : R z W) : Bo F T (rIxT T.K) (.tup l) (.int i) W R := fun C H O di oc ow x y hx hy Q q => by
  obtain ⟨a, xs, e, hs, kl⟩ := hx
  have hy : y = .int i := hy
  obtain ⟨v, ev, kv⟩ := kl.atI hi
  subst e hy
  exact ⟨a, xs, i, v, rfl, rfl, Same.sqT di.same hs, ev, q z W H O v r (.refl di oc ow) kv⟩
theorem ev_bm {Ty : String} {r : V → List V → Hp → VK → Prop} {to : TE}
    (h : Ev F T to G W fun d W1 => (∀ (C H O : Hp), Dis O H → Same C O → Ow F T H C O W1 → ∀ x, Den F T H d x → tyV T.K Ty x (ov O H)) ∧ EvA F T tr G W1 fun ds W2 =>
      ∀ (C H O : Hp), Dis O H → Same C O → Ow F T H C O W2 → ∀ x vs, Den F T H d x → DenL F T H ds vs → ∀ Q : VK, (∀ d W' H' O' v, R d W' → Nx F T C W' H H' O' → Den F T H' d v → Q v (ov O' H')) → r x vs (ov O H) Q) : Ev F T (tBM T.K Ty r to tr) G W R := fun C H O σ w Q q =>
  h C H O σ w _ fun d W1 H1 O1 x ⟨ht, ha⟩ n1 k1 => ⟨ht C H1 O1 n1.dis n1.oc n1.own x k1, ha C H1 O1 σ (w.step n1) _ fun ds W2 H2 O2 vs r2 n2 k2 =>
    r2 C H2 O2 n2.dis n2.oc n2.own x vs (k1.mono n2.ext) k2 Q fun d W' H' O' v rr n k => q d W' H' O' v rr ((n1.trans n2).trans n) k⟩
theorem ev_bm0 {Ty : String} {r : V → List V → Hp → VK → Prop} {to : TE}
    (h : Ev F T to G W fun d W1 => ∀ (C H O : Hp), Dis O H → Same C O → Ow F T H C O W1 → ∀ x, Den F T H d x → tyV T.K Ty x (ov O H) ∧
      ∀ Q : VK, (∀ d W' H' O' v, R d W' → Nx F T C W' H H' O' → Den F T H' d v → Q v (ov O' H')) → r x [] (ov O H) Q) : Ev F T (tBM0 T.K Ty r to) G W R := fun C H O σ w Q q =>
  h C H O σ w _ fun d W1 H1 O1 x r1 n1 k1 => let ⟨ht, r2⟩ := r1 C H1 O1 n1.dis n1.oc n1.own x k1
    ⟨ht, r2 Q fun d W' H' O' v rr n k => q d W' H' O' v rr (n1.trans n) k⟩
theorem own_lst {W1 W2 : Om} (ow : Ow F T H C O (W1 ++ (a, .lst l) :: W2)) : ∃ xs, O a = some (.lst xs) ∧ DenL F T H l xs := (ow.at_ a (.lst l) (by simp)).2
/-- l.append(e) -/
theorem ev_append {to : TE} (h : Ev F T to G W fun d W0 => ∃ a l0 W01 W02, d = .adr a ∧ W0 = W01 ++ (a, .lst l0) :: W02 ∧ EvA F T tr G W0 fun ds W' => ∃ l W1 W2 z, W' = W1 ++ (a, .lst l) :: W2 ∧ ds = [z] ∧ l.length < sizeLine ∧ R .non (W1 ++ (a, .lst (l ++ [z])) :: W2)) :
    Ev F T (tBM T.K "list" rAppend to tr) G W R := ev_bm (h.imp fun d W0 ⟨a, l0, W01, W02, e1, e2, ha⟩ => by
  subst e1
  refine ⟨fun C H O di oc ow x kx => ?_, ?_⟩
  · have kx : x = .ref a := kx
    subst kx e2
    obtain ⟨xs, e, _⟩ := own_lst ow
    exact .inl ⟨rfl, xs, SqL.of (ov_own e)⟩
  · refine fun C H O σ w Q q => ha C H O σ w Q fun ds W' H' O' vs ⟨l, W1, W2, z, e3, e4, hl, r⟩ n k => q ds W' H' O' vs ?_ n k
    subst e3 e4
    intro C H O di oc ow x vs kx kv Q q
    have kx : x = .ref a := kx
    obtain ⟨v, r', ev, k1, er⟩ := kv
    have er : r' = [] := er
    subst kx ev er
    obtain ⟨xs, e, kl⟩ := own_lst ow
    refine ⟨a, xs, v, rfl, rfl, ov_own e, by rw [kl.len]; exact hl, ?_⟩
    obtain ⟨n2, e2⟩ := (Nx.refl di oc ow).write (o := .lst (xs ++ [v])) (od2 := .lst (l ++ [z])) ⟨_, rfl, kl.app (.one k1)⟩
    rw [e2]
    exact q .non _ _ _ _ r n2 rfl)
/-- l.pop() -/
theorem ev_pop {to : TE} (h : Ev F T to G W fun d W0 => ∃ a l W1 W2 z, d = .adr a ∧ W0 = W1 ++ (a, .lst (l ++ [z])) :: W2 ∧ R z (W1 ++ (a, .lst l) :: W2)) : Ev F T (tBM0 T.K "list" rPop to) G W R :=
  ev_bm0 (h.imp fun d W0 ⟨a, l, W1, W2, z, e1, e2, r⟩ => by
    subst e1 e2
    intro C H O di oc ow x kx
    have kx : x = .ref a := kx
    subst kx
    obtain ⟨xs, e, kl⟩ := own_lst ow
    refine ⟨.inl ⟨rfl, xs, SqL.of (ov_own e)⟩, fun Q q => ?_⟩
    obtain ⟨us, ws, e3, k1, k2⟩ := kl.app_inv
    obtain ⟨v, r', ev, kv, er⟩ := k2
    have er : r' = [] := er
    subst er ev e3
    refine ⟨a, _, v, rfl, rfl, ov_own e, by simp, ?_⟩
    rw [List.dropLast_concat]
    obtain ⟨n2, e2⟩ := (Nx.refl di oc ow).write (o := .lst us) (od2 := .lst l) ⟨_, rfl, k1⟩
    rw [e2]
    exact q z _ _ _ _ r n2 kv)
/-- l[i] = e -/
theorem sw_setL {to ti : TE} (h : Ev F T te G W fun z W1 => Ev F T to G W1 fun d W2 => Ev F T ti G W2 fun i W3 => ∃ a l j k Wa Wb, d = .adr a ∧ i = .int k ∧ W3 = Wa ++ (a, .lst l) :: Wb ∧ ixN l.length k = some j ∧ E.nx G (Wa ++ (a, .lst (l.set j z)) :: Wb)) :
    Sw F T (tAsg te (gSub to ti rSetL)) G W E := fun C H O σ w B b =>
  h C H O σ w _ fun z W1 H1 O1 v h1 n1 k1 => h1 C H1 O1 σ (w.step n1) _ fun d W2 H2 O2 x h2 n2 k2 => h2 C H2 O2 σ ((w.step n1).step n2) _ fun i W3 H3 O3 y ⟨a, l, j, k, Wa, Wb, e1, e2, e3, hj, r⟩ n3 k3 => by
    subst e1 e2 e3
    have k2 : x = .ref a := k2
    have k3 : y = .int k := k3
    subst k2 k3
    obtain ⟨xs, e, kl⟩ := own_lst n3.own
    refine ⟨a, xs, k, j, rfl, rfl, ov_own e, by rw [kl.len]; exact hj, ?_⟩
    have nn := (n1.trans n2).trans n3
    obtain ⟨n4, e4⟩ := nn.write (o := .lst (xs.set j v)) (od2 := .lst (l.set j z)) ⟨_, rfl, kl.set ((k1.mono n2.ext).mono n3.ext)⟩
    rw [e4]
    exact b.nx _ _ _ _ _ r n4 (w.loc.mono nn.ext)
theorem ei_list {tl : TE} {Z : List D → Om → Prop} (h : Ev F T tl G W fun d W1 => ∃ l, d = .lst l ∧ Z l W1) : EvI F T (iList T.K tl) G W Z := fun C H O σ w Q q =>
  h C H O σ w _ fun d W1 H1 O1 x ⟨l, e, z⟩ n k => by
    subst e
    obtain ⟨a, xs, ea, hs, kl⟩ := k
    subst ea
    have hs : SqL T.K H1 a xs := SqL.of hs
    refine ⟨a, rfl, ⟨xs, n.dis.same.seq hs⟩, q _ l W1 H1 O1 z n fun i H2 O2 s di => ⟨fun d hd => ?_, fun e => ⟨xs, di.same.seq (s.seq hs), by rw [kl.len, e]; exact Nat.le_refl _⟩⟩⟩
    obtain ⟨v, hv, kv⟩ := kl.get hd
    have hq : SqL T.K (ov O2 H2) a xs := di.same.seq (s.seq hs)
    refine ⟨⟨xs, v, hq, hv⟩, fun x X ⟨e, y⟩ => ⟨H2, Same.refl _, di, e, ?_⟩⟩
    have := y xs hq
    rw [hv] at this
    cases this
    exact kv.mono s
theorem ei_tup {tl : TE} {Z : List D → Om → Prop} (h : Ev F T tl G W fun d W1 => ∃ l, d = .tup l ∧ Z l W1) : EvI F T (iTup T.K tl) G W Z := fun C H O σ w Q q =>
  h C H O σ w _ fun d W1 H1 O1 x ⟨l, e, z⟩ n k => by
    subst e
    obtain ⟨a, xs, ea, hs, kl⟩ := k
    subst ea
    refine ⟨a, rfl, ⟨xs, Same.sqT n.dis.same hs⟩, q _ l W1 H1 O1 z n fun i H2 O2 s di => ⟨fun d hd => ?_, fun e => ⟨xs, Same.sqT di.same (Same.sqT s hs), by rw [kl.len, e]; exact Nat.le_refl _⟩⟩⟩
    obtain ⟨v, hv, kv⟩ := kl.get hd
    have hq : SqT T.K (ov O2 H2) a xs := Same.sqT di.same (Same.sqT s hs)
    refine ⟨⟨xs, v, hq, hv⟩, fun x X ⟨e, y⟩ => ⟨H2, Same.refl _, di, e, ?_⟩⟩
    have := y xs hq
    rw [hv] at this
    cases this
    exact kv.mono s
def rng (lo : Int) (n : Nat) : List D := (List.range n).map fun k => .int (lo + (k : Nat))
theorem rng_len (lo : Int) (n : Nat) : (rng lo n).length = n := by simp [rng]
theorem rng_get {lo : Int} {n i : Nat} {d : D} (h : (rng lo n)[i]? = some d) : i < n ∧ d = .int (lo + (i : Nat)) := by
  have hi : i < (rng lo n).length := (List.getElem?_eq_some_iff.mp h).1
  rw [rng_len] at hi
  refine ⟨hi, ?_⟩
  unfold rng at h
  rw [List.getElem?_map, List.getElem?_range hi] at h
  exact (Option.some.inj h).symm
theorem wk_rng {lo : Int} {n : Nat} : Wk F T (Itr lo n) H (rng lo n) := fun i H2 O2 s di => ⟨fun d hd => by
  obtain ⟨hi, e⟩ := rng_get hd
  subst e
  exact ⟨hi, fun x X ⟨e1, e2⟩ => ⟨H2, Same.refl _, di, e1, e2⟩⟩, fun e => by
  rw [rng_len] at e
  show n ≤ i
  omega⟩
theorem ei_rng1 {Z : List D → Om → Prop} (h : EvA F T tr G W fun ds W1 => ∃ j : Int, ds = [.int j] ∧ -(2 ^ 62) ≤ j ∧ j < 2 ^ 62 ∧ Z (rng 0 j.toNat) W1) : EvI F T (iRng1 tr) G W Z := fun C H O σ w Q q =>
  h C H O σ w _ fun ds W1 H1 O1 vs ⟨j, e, h1, h2, z⟩ n k => by
    subst e
    have k := DenL.vls_inv (ws := [.int j]) k
    subst k
    exact ⟨j, rfl, h1, h2, q _ _ W1 H1 O1 z n wk_rng⟩
end
end N
set_option Elab.async false
set_option linter.all false
set_option maxRecDepth 100000
namespace N
open PySem L2
/-- a promise: data of the arguments, owned cells handed in, what is wanted behind -/
abbrev FS := List D → Om → (D → Om → Prop) → Prop
section
variable (F : FmKit) (T : Kx)
def spN (S : FS) : Sp := fun vs X Q _ => ∃ (ds : List D) (W : Om) (C H O : Hp) (post : D → Om → Prop), X = ov O H ∧ Dis O H ∧ Same C O ∧ Ow F T H C O W ∧ DenL F T H ds vs ∧ S ds W post ∧
  ∀ d W' H' O' v, post d W' → Nx F T C W' H H' O' → Den F T H' d v → Q v (ov O' H')
end
section
variable {F : FmKit} {T : Kx} {C H H' O O' : Hp} {G : Gm} {W W' : Om} {σ : St} {a p : Addr} {od : OD} {d : D} {l : List D}
  {te ta tb : TE} {t u : TT} {R R' : D → Om → Prop} {Z : Bool → Om → Prop} {tr tk : TA} {ts tz : TS} {E : XK} {En1 : En} {S : FS}
/-- a part of what is owned is handed in, the rest stands behind -/
theorem run_sp {ds : List D} {vs : List V} {Wc Wf : Om} {Q : VK} (di : Dis O H) (oc : Same C O) (ow : Ow F T H C O (Wc ++ Wf)) (k : DenL F T H ds vs) (h : S ds Wc fun d W' => R d (W' ++ Wf))
    (q : ∀ d W' H' O' v, R d W' → Nx F T C W' H H' O' → Den F T H' d v → Q v (ov O' H')) : spN F T S vs (ov O H) Q E := by
  have nd := ow.nd
  have nd2 : (akeys Wc ++ akeys Wf).Nodup := by
    have e : akeys (Wc ++ Wf) = akeys Wc ++ akeys Wf := by simp [akeys]
    rw [← e]
    exact nd
  rw [List.nodup_append] at nd2
  obtain ⟨ndc, ndf, dj⟩ := nd2
  have inF : ∀ b, b ∈ akeys Wf → ∃ od, (b, od) ∈ Wf := fun b hb => by
    obtain ⟨x, hx, e⟩ := List.mem_map.mp hb
    exact ⟨x.2, by rw [← e]; exact hx⟩
  have atF : ∀ b od, (b, od) ∈ Wf → C b = none ∧ OdAt F T H (O b) od := fun b od m => ow.at_ b od (List.mem_append_right _ m)
  refine ⟨ds, Wc, fun b => if b ∈ akeys Wf then O b else C b, H, O, _, rfl, di, fun b o e => ?_, ⟨ndc, fun a od m => ?_⟩, k, h, fun d W' H' O' v r n kd => q d (W' ++ Wf) H' O' v r ⟨n.ext, n.dis, fun b o e => ?_, ⟨?_, fun a od m => ?_⟩⟩ kd⟩
  · by_cases hb : b ∈ akeys Wf
    · simp only [if_pos hb] at e
      exact e
    · simp only [if_neg hb] at e
      exact oc b o e
  · have hn : a ∉ akeys Wf := fun z => dj a (mem_akeys m) a z rfl
    rw [if_neg hn]
    exact ow.at_ a od (List.mem_append_left _ m)
  · refine n.oc b o ?_
    by_cases hb : b ∈ akeys Wf
    · obtain ⟨od, m⟩ := inF b hb
      rw [(atF b od m).1] at e
      cases e
    · rw [if_neg hb]
      exact e
  · have e : akeys (W' ++ Wf) = akeys W' ++ akeys Wf := by simp [akeys]
    rw [e, List.nodup_append]
    refine ⟨n.own.nd, ndf, fun x hx y hy exy => ?_⟩
    subst exy
    obtain ⟨z, hz, ez⟩ := List.mem_map.mp hx
    have h1 := (n.own.at_ z.1 z.2 hz).1
    rw [ez, if_pos hy] at h1
    obtain ⟨od, m⟩ := inF _ hy
    obtain ⟨o, eo⟩ := (atF _ od m).2.some
    rw [h1] at eo
    cases eo
  · rcases List.mem_append.mp m with m | m
    · obtain ⟨h1, h2⟩ := n.own.at_ a od m
      refine ⟨?_, h2⟩
      by_cases hb : a ∈ akeys Wf
      · obtain ⟨od', m'⟩ := inF a hb
        exact (atF a od' m').1
      · rw [if_neg hb] at h1
        exact h1
    · obtain ⟨h1, h2⟩ := atF a od m
      obtain ⟨o, eo⟩ := h2.some
      have e2 : O' a = some o := n.oc a o (by rw [if_pos (mem_akeys (x := (a, od)) m)]; exact eo)
      rw [eo] at h2
      rw [e2]
      exact ⟨h1, h2.mono n.ext⟩
/-- what a call asks: the part of the owned cells that is handed in, the promise -/
def Hand (S : FS) (ds : List D) (W : Om) (R : D → Om → Prop) : Prop := ∃ Wc Wf, W.Perm (Wc ++ Wf) ∧ S ds Wc fun d W' => R d (W' ++ Wf)
theorem hand0 {ds : List D} (h : S ds [] fun d W' => R d (W' ++ W)) : Hand S ds W R := ⟨[], W, List.Perm.refl _, h⟩
theorem handA {ds : List D} (h : S ds W R) : Hand S ds W R := ⟨W, [], by rw [List.append_nil], by simpa only [List.append_nil] using h⟩
theorem Hand.run {ds : List D} {vs : List V} {Q : VK} (h : Hand S ds W R) (di : Dis O H) (oc : Same C O) (ow : Ow F T H C O W) (k : DenL F T H ds vs) (q : ∀ d W' H' O' v, R d W' → Nx F T C W' H H' O' → Den F T H' d v → Q v (ov O' H')) :
    spN F T S vs (ov O H) Q E := by
  obtain ⟨Wc, Wf, hp, hs⟩ := h
  exact run_sp di oc (ow.perm hp) k hs q
theorem ev_call {dvs : List V} (h : EvA F T tr G W fun ds W1 => Hand S (ds ++ dvs.map D.vl) W1 R) : Ev F T (tCall (spN F T S) dvs E tr) G W R := fun C H O σ w Q q =>
  h C H O σ w _ fun ds W1 H1 O1 vs h1 n k => h1.run n.dis n.oc n.own (k.app (.vls dvs)) fun d W' H' O' v r n2 kd => q d W' H' O' v r (n.trans n2) kd
def fmVals (F : FmKit) (f : Fm) : List D := [.str (F.kind f), .tup (partsD f), .int (F.many f), .int (F.deep f), .str (F.atoms f), .str (F.bare f), .str (F.spell f), .tup ((F.alls f).map .fm)]
inductive Inst (F : FmKit) (W : Om) : D → Nat → List Str → List D → Prop
  | fm (f : Fm) : Inst F W (.fm f) 0 fmNames (fmVals F f)
  | obj (c : Nat) (ns : List Str) (l : List D) : Inst F W (.obj c ns l) c ns l
  | own (a : Addr) (c : Nat) (ns : List Str) (l : List D) : (a, .ins c ns l) ∈ W → Inst F W (.adr a) c ns l
theorem parts_den : ∀ {f : Fm} {ps : List V}, PartsR (FormAt F T H) f ps → DenL F T H (partsD f) ps
  | .at c, _, h => by
    have h : _ = _ := h
    subst h
    exact .one rfl
  | .no, _, h => h
  | .imp a b, _, ⟨p, q, e, h1, h2⟩ => by
    subst e
    exact ⟨_, _, rfl, ⟨p, rfl, h1⟩, .one ⟨q, rfl, h2⟩⟩
  | .all a, _, ⟨p, e, h1⟩ => by
    subst e
    exact .one ⟨p, rfl, h1⟩
theorem alls_den : ∀ {as : List Addr} {fs : List Fm}, AllR (FormAt F T H) as fs → DenL F T H (fs.map .fm) (as.map V.ref)
  | [], _, h => by
    have h : _ = _ := h
    subst h
    rfl
  | a :: as, _, ⟨f, r, e, h1, h2⟩ => by
    subst e
    exact ⟨_, _, rfl, ⟨a, rfl, h1⟩, alls_den h2⟩
theorem Inst.at {c : Nat} {ns : List Str} {x : V} (i : Inst F W d c ns l) (di : Dis O H) (ow : Ow F T H C O W) (k : Den F T H d x) : ∃ a dx fs, x = .ref a ∧ ov O H a = some (.ins (T.cl c) dx fs) ∧ fs.map (·.1) = ns ∧ DenL F T H l (fs.map (·.2)) := by
  cases i with
  | fm f =>
    obtain ⟨a, e, fa⟩ := k
    obtain ⟨dx, pa, ps, al, as, h1, h2, h3, h4, h5⟩ := fa.out
    exact ⟨a, dx, _, e, di.same _ _ h1, rfl, _, _, rfl, rfl, _, _, rfl, ⟨pa, ps, rfl, h2, parts_den h3⟩, _, _, rfl, rfl, _, _, rfl, rfl, _, _, rfl, rfl, _, _, rfl, rfl, _, _, rfl, rfl, _, _, rfl, ⟨al, _, rfl, h4, alls_den h5⟩, rfl⟩
  | obj c ns l =>
    obtain ⟨a, dx, fs, e, h1, h2, h3⟩ := k
    exact ⟨a, dx, fs, e, di.same _ _ h1, h2, h3⟩
  | own a c ns l m =>
    obtain ⟨_, dx, fs, h1, h2, h3⟩ := ow.at_ a _ m
    exact ⟨a, dx, fs, k, ov_own h1, h2, h3⟩
theorem look_zip : ∀ {fs : List (Str × V)} {l : List D} {n : Str} {z : D}, DenL F T H l (fs.map (·.2)) → ((fs.map (·.1)).zip l).lookup n = some z → ∃ v, fs.lookup n = some v ∧ Den F T H z v
  | [], l, n, z, _, e => by simp at e
  | (m, v) :: fs, [], n, z, k, e => by simp at e
  | (m, v) :: fs, d :: l, n, z, ⟨w, r, e1, k1, k2⟩, e => by
    rw [List.map_cons] at e1
    obtain ⟨rfl, rfl⟩ := List.cons.inj e1
    rw [List.map_cons, List.zip_cons_cons, List.lookup_cons] at e
    rw [List.lookup_cons]
    cases q : n == m with
    | true =>
      rw [q] at e
      have e : d = z := Option.some.inj e
      subst e
      exact ⟨v, rfl, k1⟩
    | false =>
      rw [q] at e
      exact look_zip k2 e
theorem look_none : ∀ {fs : List (Str × V)} {n : Str}, n ∉ fs.map (·.1) → fs.lookup n = none
  | [], _, _ => rfl
  | (m, v) :: fs, n, h => by
    rw [List.map_cons, List.mem_cons, not_or] at h
    rw [List.lookup_cons, beq_eq_false_iff_ne.mpr h.1]
    exact look_none h.2
/-- o.f -/
theorem ev_fld {n : Str} (h : Ev F T ta G W fun d W1 => ∃ c ns l z, Inst F W1 d c ns l ∧ Cls T.K (T.cl c) ∧ NoAttr T.K (T.cl c) n ∧ (ns.zip l).lookup n = some z ∧ R z W1) : Ev F T (tFld T.K ta n) G W R := fun C H O σ w Q q =>
  h C H O σ w _ fun d W1 H1 O1 x ⟨c, ns, l, z, i, hc, hn, hl, r⟩ n1 k => by
    obtain ⟨a, dx, fs, e, h1, h2, h3⟩ := i.at n1.dis n1.own k
    subst h2
    obtain ⟨v, hv, kv⟩ := look_zip h3 hl
    exact ⟨a, _, dx, fs, v, e, h1, hc, hn, hv, q z W1 H1 O1 v r n1 kv⟩
/-- o.m(..) -/
theorem ev_meth {c : Nat} {m : Str} {dvs : List V} (h : Ev F T ta G W fun d W1 => ∃ ns l, Inst F W1 d c ns l ∧ m ∉ ns ∧ EvA F T tr G W1 fun ds W2 => Hand S (d :: (ds ++ dvs.map D.vl)) W2 R) : Ev F T (tMeth (T.cl c) m (spN F T S) dvs E ta tr) G W R := fun C H O σ w Q q =>
  h C H O σ w _ fun d W1 H1 O1 x ⟨ns, l, i, hm, ha⟩ n1 k1 => by
    obtain ⟨a, dx, fs, e, h1, h2, h3⟩ := i.at n1.dis n1.own k1
    refine ⟨a, dx, fs, e, h1, look_none (by rw [h2]; exact hm), ha C H1 O1 σ (w.step n1) _ fun ds W2 H2 O2 vs hh n2 k2 => ?_⟩
    exact hh.run n2.dis n2.oc n2.own ⟨x, _, rfl, k1.mono n2.ext, k2.app (.vls dvs)⟩ fun d W' H' O' v r n3 kd => q d W' H' O' v r ((n1.trans n2).trans n3) kd
theorem ev_prop {c : Nat} {dvs : List V} (h : Ev F T ta G W fun d W1 => ∃ ns l, Inst F W1 d c ns l ∧ Hand S (d :: dvs.map D.vl) W1 R) : Ev F T (tProp (T.cl c) (spN F T S) dvs E ta) G W R := fun C H O σ w Q q =>
  h C H O σ w _ fun d W1 H1 O1 x ⟨ns, l, i, hh⟩ n1 k1 => by
    obtain ⟨a, dx, fs, e, h1, h2, h3⟩ := i.at n1.dis n1.own k1
    subst e
    exact ⟨a, dx, fs, rfl, h1, hh.run n1.dis n1.oc n1.own ⟨_, _, rfl, k1, .vls dvs⟩ fun d W' H' O' v r n3 kd => q d W' H' O' v r (n1.trans n3) kd⟩
/-- C(..) -/
theorem run_make {c : Nat} {ds : List D} {vs : List V} {x dx : Addr} {Q : VK} (n : Nx F T C W H H' O') (k : DenL F T H' ds vs) (h : ∀ x, x ∉ akeys W → Hand S (.adr x :: ds) ((x, .ins c [] []) :: W) fun d W' => d = .non ∧ R (.adr x) W')
    (hx : ov O' H' x = none) (hdx : ov O' H' dx = none) (ne : dx ≠ x) (q : ∀ d W2 H2 O2 v, R d W2 → Nx F T C W2 H H2 O2 → Den F T H2 d v → Q v (ov O2 H2)) :
    spN F T S (.ref x :: vs) (upd (upd (ov O' H') dx (.own x)) x (.ins (T.cl c) dx [])) (fun v H2 => v = .non ∧ Q (.ref x) H2) E := by
  obtain ⟨n2, e2, s2⟩ := n.newF (o := .own x) hdx
  rw [e2]
  have hx2 : ov O' (upd H' dx (.own x)) x = none := by rw [← e2, upd_ne ne.symm]; exact hx
  obtain ⟨n3, e3, np⟩ := n2.newO (od := .ins c [] []) (o := .ins (T.cl c) dx []) hx2 ⟨dx, [], rfl, rfl, rfl⟩
  rw [e3]
  refine (h x np).run n3.dis n3.oc n3.own ⟨_, _, rfl, rfl, k.mono s2⟩ fun d W' H2 O2 v ⟨e, r⟩ n4 kd => ?_
  subst e
  exact ⟨kd, q (.adr x) W' H2 O2 _ r (n3.trans n4) rfl⟩
theorem ev_make {c : Nat} {dvs : List V} (h : EvA F T tr G W fun ds W1 => ∀ x, x ∉ akeys W1 → Hand S (.adr x :: (ds ++ dvs.map D.vl)) ((x, .ins c [] []) :: W1) fun d W' => d = .non ∧ R (.adr x) W') : Ev F T (tMake (T.cl c) (spN F T S) dvs E tr) G W R := fun C H O σ w Q q =>
  h C H O σ w _ fun ds W1 H1 O1 vs h1 n k x dx hx hdx ne => run_make n (k.app (.vls dvs)) h1 hx hdx ne q
theorem ev_makeR {c : Nat} (h : EvA F T tr G W fun ds W1 => ∀ x, x ∉ akeys W1 → Hand S (.adr x :: ds) ((x, .ins c [] []) :: W1) fun d W' => d = .non ∧ R (.adr x) W') : Ev F T (StX.tMakeR (T.cl c) (spN F T S) E tr) G W R := fun C H O σ w Q q =>
  h C H O σ w _ fun ds W1 H1 O1 vs h1 n k x dx hx hdx ne => run_make n k h1 hx hdx ne q
theorem putF_new : ∀ {fs : List (Str × V)} {n : Str} {v : V}, n ∉ fs.map (·.1) → putF n v fs = fs ++ [(n, v)]
  | [], _, _, _ => rfl
  | (m, x) :: fs, n, v, h => by
    rw [List.map_cons, List.mem_cons, not_or] at h
    unfold putF
    rw [if_neg (fun e => h.1 e.symm), putF_new h.2]
    rfl
theorem putF_at : ∀ {fs : List (Str × V)} {n : Str} {v : V} {j : Nat}, (fs.map (·.1)).Nodup → (fs.map (·.1))[j]? = some n → (putF n v fs).map (·.1) = fs.map (·.1) ∧ (putF n v fs).map (·.2) = (fs.map (·.2)).set j v
  | [], _, _, j, _, e => by simp at e
  | (m, x) :: fs, n, v, 0, nd, e => by
    have e : m = n := Option.some.inj e
    unfold putF
    rw [if_pos e]
    exact ⟨rfl, rfl⟩
  | (m, x) :: fs, n, v, j + 1, nd, e => by
    rw [List.map_cons, List.nodup_cons] at nd
    rw [List.map_cons, List.getElem?_cons_succ] at e
    have hne : m ≠ n := fun q => nd.1 (by rw [q]; exact List.mem_of_getElem? e)
    obtain ⟨h1, h2⟩ := putF_at (v := v) nd.2 e
    unfold putF
    rw [if_neg hne]
    refine ⟨?_, ?_⟩
    · rw [List.map_cons, List.map_cons, h1]
    · rw [List.map_cons, List.map_cons, h2]
      rfl
/-- n of an instance set: a new attribute, or the j-th one -/
inductive Put (n : Str) (z : D) : List Str → List D → List Str → List D → Prop
  | new (ns : List Str) (l : List D) : n ∉ ns → Put n z ns l (ns ++ [n]) (l ++ [z])
  | at (ns : List Str) (l : List D) (j : Nat) : ns.Nodup → ns[j]? = some n → Put n z ns l ns (l.set j z)
theorem Put.odat {n : Str} {z : D} {ns ns' : List Str} {l' : List D} {c : Nat} {dx : Addr} {fs : List (Str × V)} {v : V} (h : Put n z ns l ns' l') (e : fs.map (·.1) = ns) (k : DenL F T H l (fs.map (·.2))) (kz : Den F T H z v) : OdAt F T H (some (.ins (T.cl c) dx (putF n v fs))) (.ins c ns' l') := by
  cases h with
  | new hn =>
    refine ⟨dx, _, rfl, ?_, ?_⟩
    · rw [putF_new (by rw [e]; exact hn), List.map_append, e]
      rfl
    · rw [putF_new (by rw [e]; exact hn), List.map_append]
      exact k.app (.one kz)
  | «at» j nd hj =>
    obtain ⟨h1, h2⟩ := putF_at (v := v) (by rw [e]; exact nd) (by rw [e]; exact hj)
    refine ⟨dx, _, rfl, by rw [h1, e], ?_⟩
    rw [h2]
    exact k.set kz
def gFld (K : PySem.W.Frag) (ta : TE) (f : Str) : TG := fun y σ H Q => ta σ H fun x H2 => ∃ a C dx fs, x = .ref a ∧ H2 a = some (.ins C dx fs) ∧ Cls K C ∧ NoAttr K C f ∧ fs.length < 1000 ∧ Q σ (upd H2 a (.ins C dx (putF f y fs)))
/-- the receiver of a store -/
def Rcv (F : FmKit) (T : Kx) (d z : D) (n : Str) (W : Om) (R : Om → Prop) : Prop := ∃ a c ns l W1 W2 ns' l', d = .adr a ∧ W = W1 ++ (a, .ins c ns l) :: W2 ∧ Cls T.K (T.cl c) ∧ NoAttr T.K (T.cl c) n ∧ ns.length < 1000 ∧ Put n z ns l ns' l' ∧ R (W1 ++ (a, .ins c ns' l') :: W2)
theorem Rcv.run {x y : V} {z : D} {n : Str} {RW : Om → Prop} (h : Rcv F T d z n W RW) (nx : Nx F T C W H H' O') (kx : Den F T H' d x) (ky : Den F T H' z y) : ∃ a C' dx fs, x = .ref a ∧ ov O' H' a = some (.ins C' dx fs) ∧ Cls T.K C' ∧ NoAttr T.K C' n ∧ fs.length < 1000 ∧
    ∃ W2 O2, RW W2 ∧ Nx F T C W2 H H' O2 ∧ upd (ov O' H') a (.ins C' dx (putF n y fs)) = ov O2 H' := by
  obtain ⟨a, c, ns, l, W1, W2, ns', l', e1, e2, hc, hn, hl, hp, r⟩ := h
  subst e1 e2
  have kx : x = .ref a := kx
  obtain ⟨_, dx, fs, h1, h2, h3⟩ := nx.own.at_ a _ (List.mem_append_right _ List.mem_cons_self)
  obtain ⟨n2, e⟩ := nx.write (o := .ins (T.cl c) dx (putF n y fs)) (hp.odat h2 h3 ky)
  have hl2 : fs.length = ns.length := by rw [← h2, List.length_map]
  exact ⟨a, _, dx, fs, kx, ov_own h1, hc, hn, by rw [hl2]; exact hl, _, _, r, n2, e⟩
/-- o.f = e -/
theorem sw_fld {n : Str} (h : Ev F T tb G W fun z W1 => Ev F T ta G W1 fun d W2 => Rcv F T d z n W2 (En1.nx G)) : Sw F T (sFld T.K ta tb n) G W En1 := fun C H O σ w B b =>
  h C H O σ w _ fun z W1 H1 O1 y h1 n1 k1 => h1 C H1 O1 σ (w.step n1) _ fun d W2 H2 O2 x hr n2 k2 => by
    obtain ⟨a, C', dx, fs, e, h1, hc, hn, hl, W3, O3, r, n3, e3⟩ := hr.run (n1.trans n2) k2 (k1.mono n2.ext)
    refine ⟨a, C', dx, fs, e, h1, hc, hn, hl, ?_⟩
    rw [e3]
    exact b.nx G W3 _ _ σ r n3 (w.loc.mono (n1.trans n2).ext)
/-- a target of any form: slots and owned cells may change -/
def Ta (F : FmKit) (T : Kx) (g : TG) (d : D) (G : Gm) (W : Om) (R : Gm → Om → Prop) : Prop :=
  ∀ (C H O : Hp) (σ : St), Wd F T C G W H O σ → ∀ v, Den F T H d v → ∀ Q : St → Hp → Prop, (∀ G' W' H' O' σ', R G' W' → Nx F T C W' H H' O' → Lo F T H' G' σ' → Q σ' (ov O' H')) → g v σ (ov O H) Q
def Tas (F : FmKit) (T : Kx) (g : TGs) (ds : List D) (G : Gm) (W : Om) (R : Gm → Om → Prop) : Prop :=
  ∀ (C H O : Hp) (σ : St), Wd F T C G W H O σ → ∀ vs, DenL F T H ds vs → ∀ Q : St → Hp → Prop, (∀ G' W' H' O' σ', R G' W' → Nx F T C W' H H' O' → Lo F T H' G' σ' → Q σ' (ov O' H')) → g vs σ (ov O H) Q
theorem ta_fld {n : Str} {RR : Gm → Om → Prop} (h : Ev F T ta G W fun x W2 => Rcv F T x d n W2 (RR G)) : Ta F T (gFld T.K ta n) d G W RR := fun C H O σ w v k Q q =>
  h C H O σ w _ fun x W2 H2 O2 y hr n2 k2 => by
    obtain ⟨a, C', dx, fs, e, h1, hc, hn, hl, W3, O3, r, n3, e3⟩ := hr.run n2 k2 (k.mono n2.ext)
    refine ⟨a, C', dx, fs, e, h1, hc, hn, hl, ?_⟩
    rw [e3]
    exact q G W3 _ _ σ r n3 (w.loc.mono n2.ext)
theorem ta_tg {g : TG} {RR : Gm → Om → Prop} (h : Tg F T g d G fun G' => RR G' W) : Ta F T g d G W RR := fun C H O σ w v k Q q =>
  h H _ σ v w.loc w.dis.same k _ fun G' σ' r l => q G' W H O σ' r w.nx l
theorem ta_name {i : Nat} {RR : Gm → Om → Prop} (h : RR (G.set i (some d)) W) : Ta F T (gName i) d G W RR := ta_tg (tg_name h)
theorem tas_nil {RR : Gm → Om → Prop} (h : RR G W) : Tas F T gNil [] G W RR := fun C H O σ w v k Q q => ⟨k, q G W H O σ h w.nx w.loc⟩
theorem tas_cons {g : TG} {gs : TGs} {ds : List D} {RR : Gm → Om → Prop} (h : Ta F T g d G W fun G' W' => Tas F T gs ds G' W' RR) : Tas F T (gCons g gs) (d :: ds) G W RR := fun C H O σ w vs k Q q => by
  obtain ⟨v, r, ev, k1, k2⟩ := k
  exact ⟨v, r, ev, h C H O σ w v k1 _ fun G1 W1 H1 O1 σ1 hh n1 l1 => hh C H1 O1 σ1 ⟨n1.dis, n1.oc, l1, n1.own⟩ r (k2.mono n1.ext) Q fun G2 W2 H2 O2 σ2 r2 n2 l2 => q G2 W2 H2 O2 σ2 r2 (n1.trans n2) l2⟩
theorem ta_tup {n : Nat} {gs : TGs} {ds : List D} {RR : Gm → Om → Prop} (hn : ds.length = n) (h : Tas F T gs ds G W RR) : Ta F T (gTup T.K n gs) (.tup ds) G W RR := fun C H O σ w v k Q q => by
  obtain ⟨a, xs, ev, hs, kl⟩ := k
  exact ⟨a, xs, ev, Same.sqT w.dis.same hs, by rw [kl.len, hn], h C H O σ w xs kl Q q⟩
theorem sw_asgA {g : TG} (h : Ev F T te G W fun d W' => Ta F T g d G W' fun G2 W2 => En1.nx G2 W2) : Sw F T (tAsg te g) G W En1 := fun C H O σ w B b =>
  h C H O σ w _ fun d W' H' O' v r n k => r C H' O' σ (w.step n) v k _ fun G2 W2 H2 O2 σ2 r2 n2 l2 => b.nx G2 W2 H2 O2 σ2 r2 (n.trans n2) l2
theorem sw_asg2 {g1 g2 : TG} (h : Ev F T te G W fun d W' => Ta F T g1 d G W' fun G2 W2 => Ta F T g2 d G2 W2 fun G3 W3 => En1.nx G3 W3) : Sw F T (tAsg2 te g1 g2) G W En1 := fun C H O σ w B b =>
  h C H O σ w _ fun d W' H' O' v r n k => r C H' O' σ (w.step n) v k _ fun G2 W2 H2 O2 σ2 r2 n2 l2 => r2 C H2 O2 σ2 ⟨n2.dis, n2.oc, l2, n2.own⟩ v (k.mono n2.ext) _ fun G3 W3 H3 O3 σ3 r3 n3 l3 => b.nx G3 W3 H3 O3 σ3 r3 ((n.trans n2).trans n3) l3
theorem sw_asg3 {g1 g2 g3 : TG} (h : Ev F T te G W fun d W' => Ta F T g1 d G W' fun G2 W2 => Ta F T g2 d G2 W2 fun G3 W3 => Ta F T g3 d G3 W3 fun G4 W4 => En1.nx G4 W4) : Sw F T (tAsg3 te g1 g2 g3) G W En1 := fun C H O σ w B b =>
  h C H O σ w _ fun d W' H' O' v r n k => r C H' O' σ (w.step n) v k _ fun G2 W2 H2 O2 σ2 r2 n2 l2 => r2 C H2 O2 σ2 ⟨n2.dis, n2.oc, l2, n2.own⟩ v (k.mono n2.ext) _ fun G3 W3 H3 O3 σ3 r3 n3 l3 =>
    r3 C H3 O3 σ3 ⟨n3.dis, n3.oc, l3, n3.own⟩ v ((k.mono n2.ext).mono n3.ext) _ fun G4 W4 H4 O4 σ4 r4 n4 l4 => b.nx G4 W4 H4 O4 σ4 r4 (((n.trans n2).trans n3).trans n4) l4
end
end N
set_option Elab.async false
set_option linter.all false
set_option maxRecDepth 100000
namespace N
open PySem L2
def wipeG (G : Gm) : List Nat → Gm
  | [] => G
  | v :: vs => (wipeG G vs).set v none
theorem wipe_at {σ : St} {i : Nat} : ∀ {vs : List Nat}, (wipe σ vs)[i]? = if i ∈ vs then (σ[i]?).map (fun _ => none) else σ[i]?
  | [] => by simp [wipe]
  | v :: vs => by
    unfold wipe
    have ih := wipe_at (σ := σ) (i := i) (vs := vs)
    rw [List.getElem?_set]
    by_cases h : v = i
    · subst h
      rw [if_pos rfl, if_pos (List.mem_cons_self)]
      rw [wipe_length]
      by_cases hl : v < σ.length
      · rw [if_pos hl, List.getElem?_eq_getElem hl]
        rfl
      · rw [if_neg hl, List.getElem?_eq_none (by omega)]
        rfl
    · rw [if_neg h, ih]
      have : (i ∈ v :: vs) ↔ (i ∈ vs) := by
        rw [List.mem_cons]
        exact ⟨fun z => z.elim (fun q => absurd q.symm h) id, .inr⟩
      by_cases hm : i ∈ vs
      · rw [if_pos hm, if_pos (this.mpr hm)]
      · rw [if_neg hm, if_neg (fun z => hm (this.mp z))]
theorem wipe_wipe {σ : St} {vs : List Nat} : wipe (wipe σ vs) vs = wipe σ vs := by
  apply List.ext_getElem?
  intro i
  rw [wipe_at, wipe_at]
  by_cases h : i ∈ vs
  · simp [h]
    rfl
  · simp [h]
theorem wipe_set {σ : St} {vs : List Nat} {i : Nat} {x : Option V} (h : i ∈ vs) : wipe (σ.set i x) vs = wipe σ vs := by
  apply List.ext_getElem?
  intro j
  rw [wipe_at, wipe_at]
  by_cases hj : j ∈ vs
  · rw [if_pos hj, if_pos hj, List.getElem?_set]
    by_cases e : i = j
    · subst e
      rw [if_pos rfl]
      by_cases hl : i < σ.length
      · rw [if_pos hl, List.getElem?_eq_getElem hl]
        rfl
      · rw [if_neg hl, List.getElem?_eq_none (by omega)]
    · rw [if_neg e]
  · rw [if_neg hj, if_neg hj, List.getElem?_set_ne (fun (e : i = j) => hj (e ▸ h))]
section
variable {F : FmKit} {T : Kx} {C H H' O O' : Hp} {G : Gm} {W W' : Om} {σ : St} {a p : Addr} {d : D} {l : List D}
  {te ta tb tv : TE} {t u : TT} {R R' : D → Om → Prop} {Z : Bool → Om → Prop} {tr tk : TA} {ts tz : TS}
theorem Lo.wipe (lo : Lo F T H G σ) : ∀ vs : List Nat, Lo F T H (wipeG G vs) (wipe σ vs)
  | [] => lo
  | v :: vs => (Lo.wipe lo vs).forget none
/-- a target of the comprehension's own names -/
def Tw (F : FmKit) (T : Kx) (vs : List Nat) (g : TG) (d : D) (G : Gm) (R : Gm → Prop) : Prop :=
  ∀ (H H1 : Hp) (σ : St) (v : V), Lo F T H G σ → Same H H1 → Den F T H d v → ∀ Q : St → Hp → Prop, (∀ G' σ', R G' → Lo F T H G' σ' → wipe σ' vs = wipe σ vs → Q σ' H1) → g v σ H1 Q
def Tws (F : FmKit) (T : Kx) (vs : List Nat) (g : TGs) (ds : List D) (G : Gm) (R : Gm → Prop) : Prop :=
  ∀ (H H1 : Hp) (σ : St) (us : List V), Lo F T H G σ → Same H H1 → DenL F T H ds us → ∀ Q : St → Hp → Prop, (∀ G' σ', R G' → Lo F T H G' σ' → wipe σ' vs = wipe σ vs → Q σ' H1) → g us σ H1 Q
variable {vs : List Nat} {Y : Gm → Prop}
theorem tw_name {i : Nat} (hi : i ∈ vs) (h : Y (G.set i (some d))) : Tw F T vs (gName i) d G Y := fun H H1 σ v l _ k Q q => q _ _ h (l.set k) (wipe_set hi)
theorem tws_nil (h : Y G) : Tws F T vs gNil [] G Y := fun H H1 σ v l _ k Q q => ⟨k, q _ _ h l rfl⟩
theorem tws_cons {g : TG} {gs : TGs} {ds : List D} (h : Tw F T vs g d G fun G' => Tws F T vs gs ds G' Y) : Tws F T vs (gCons g gs) (d :: ds) G Y := fun H H1 σ us l e k Q q => by
  obtain ⟨v, r, ev, k1, k2⟩ := k
  exact ⟨v, r, ev, h H H1 σ v l e k1 _ fun G' σ' hh l' w1 => hh H H1 σ' r l' e k2 Q fun G2 σ2 r2 l2 w2 => q G2 σ2 r2 l2 (w2.trans w1)⟩
theorem tw_tup {n : Nat} {gs : TGs} {ds : List D} (hn : ds.length = n) (h : Tws F T vs gs ds G Y) : Tw F T vs (gTup T.K n gs) (.tup ds) G Y := fun H H1 σ v l e k Q q => by
  obtain ⟨a, xs, ev, hs, kl⟩ := k
  exact ⟨a, xs, ev, Same.sqT e hs, by rw [kl.len, hn], h H H1 σ xs l e kl Q q⟩
/-- a hidden cell -/
theorem Nx.hide {o : HO} {Dp : Addr} {W1 : Om} {H1 : Hp} (n : Nx F T C W1 H H1 O') (hD : ov O' H1 Dp = none) : Nx F T (upd C Dp o) W1 H1 H1 (upd O' Dp o) ∧ upd (ov O' H1) Dp o = ov (upd O' Dp o) H1 ∧ C Dp = none := by
  obtain ⟨h1, h2⟩ := ov_none hD
  have cp : C Dp = none := by
    cases e : C Dp with
    | none => rfl
    | some x =>
      rw [n.oc Dp x e] at h1
      cases h1
  refine ⟨⟨Same.refl _, n.dis.updO h2, fun b x e => ?_, ⟨n.own.nd, fun b ob m => ?_⟩⟩, ov_updO, cp⟩
  · by_cases q : b = Dp
    · subst q
      rw [upd_same] at e ⊢
      exact e
    · rw [upd_ne q] at e ⊢
      exact n.oc b x e
  · have : b ≠ Dp := fun q => n.own.notin h1 (q ▸ mem_akeys (x := (b, ob)) m)
    rw [upd_ne this, upd_ne this]
    exact n.own.at_ b ob m
/-- the hidden cell is written -/
theorem Nx.rehide {o o' : HO} {Dp : Addr} {W2 : Om} {H1 H2 O2 : Hp} (n : Nx F T (upd C Dp o) W2 H1 H2 O2) (cp : C Dp = none) : Nx F T (upd C Dp o') W2 H1 H2 (upd O2 Dp o') ∧ upd (ov O2 H2) Dp o' = ov (upd O2 Dp o') H2 := by
  have hO : O2 Dp = some o := n.oc Dp o upd_same
  refine ⟨⟨n.ext, n.dis.updO (n.dis Dp o hO), fun b x e => ?_, ⟨n.own.nd, fun b ob m => ?_⟩⟩, ov_updO⟩
  · by_cases q : b = Dp
    · subst q
      rw [upd_same] at e ⊢
      exact e
    · rw [upd_ne q] at e
      rw [upd_ne q]
      exact n.oc b x (by rw [upd_ne q]; exact e)
  · obtain ⟨c1, c2⟩ := n.own.at_ b ob m
    have hb : b ≠ Dp := fun q => by
      rw [q, upd_same] at c1
      cases c1
    rw [upd_ne hb] at c1
    rw [upd_ne hb, upd_ne hb]
    exact ⟨c1, c2⟩
/-- the hidden cell comes out as an owned one -/
theorem Nx.show {o : HO} {od : OD} {Dp : Addr} {W2 : Om} {H1 H2 O2 : Hp} (n : Nx F T (upd C Dp o) W2 H1 H2 O2) (cp : C Dp = none) (h : OdAt F T H2 (some o) od) : Nx F T C ((Dp, od) :: W2) H1 H2 O2 ∧ Dp ∉ akeys W2 := by
  have hO : O2 Dp = some o := n.oc Dp o upd_same
  have nin : Dp ∉ akeys W2 := fun z => by
    obtain ⟨x, hx, e⟩ := List.mem_map.mp z
    have := (n.own.at_ x.1 x.2 hx).1
    rw [e, upd_same] at this
    cases this
  refine ⟨⟨n.ext, n.dis, fun b x e => n.oc b x (by rw [upd_ne (ne_of_none e cp)]; exact e), ⟨List.nodup_cons.mpr ⟨nin, n.own.nd⟩, fun b ob m => ?_⟩⟩, nin⟩
  rcases List.mem_cons.mp m with e | m
  · obtain ⟨rfl, rfl⟩ := Prod.mk.inj e
    rw [hO]
    exact ⟨cp, h⟩
  · obtain ⟨c1, c2⟩ := n.own.at_ b ob m
    have hb : b ≠ Dp := fun q => by
      rw [q, upd_same] at c1
      cases c1
    rw [upd_ne hb] at c1
    exact ⟨c1, c2⟩
/-- [e for .. in .. if ..] -/
theorem ev_lc {wi : TI} {g : TG} (h : EvI F T wi G W fun ds W1 => ∃ I : Nat → List D → Om → Prop, I 0 [] W1 ∧
      (∀ i d acc W', ds[i]? = some d → I i acc W' → Tw F T vs g d (wipeG G vs) fun G2 => EvT F T t G2 W' fun b W2 => if b = true then Ev F T te G2 W2 (fun z W3 => acc.length < sizeLine ∧ I (i + 1) (acc ++ [z]) W3) else I (i + 1) acc W2) ∧
      (∀ acc W', I ds.length acc W' → ∀ p, p ∉ akeys W' → R (.adr p) ((p, .lst acc) :: W'))) : Ev F T (tLc wi g t te vs) G W R := fun C H O σ w Q q =>
  h C H O σ w _ fun J ds W1 H1 O1 ⟨I, i0, turn, fin⟩ n1 wk Dp hD => by
    obtain ⟨n0, e0, cp⟩ := n1.hide (o := .lst []) hD
    refine ⟨fun i m X => m = ds.length - i ∧ i ≤ ds.length ∧ ∃ acc av W' H' O', X = ov O' H' ∧ Nx F T (upd C Dp (.lst av)) W' H1 H' O' ∧ DenL F T H' acc av ∧ I i acc W', ⟨ds.length, by simp, Nat.zero_le _, [], [], W1, H1, _, e0, n0, rfl, i0⟩, ?_⟩
    rintro i m X ⟨rfl, hi, acc, av, W', H', O', rfl, n, ka, ii⟩
    have k := wk i H' O' n.ext n.dis
    have lo1 := (w.loc.mono n1.ext).mono n.ext
    by_cases hlt : i < ds.length
    · obtain ⟨k1, k2⟩ := k.1 ds[i] (by simp [hlt])
      refine .inr ⟨k1, fun X2 => ∃ acc av W2 H2 O2, X2 = ov O2 H2 ∧ Nx F T (upd C Dp (.lst av)) W2 H1 H2 O2 ∧ DenL F T H2 acc av ∧ I (i + 1) acc W2, fun X2 y => ⟨ds.length - (i + 1), by omega, rfl, hlt, y⟩, fun x X2 y => ?_⟩
      obtain ⟨H2, s2, d2, rfl, kx⟩ := k2 x X2 y
      refine turn i ds[i] acc W' (by simp [hlt]) ii H2 _ _ x ((lo1.mono s2).wipe vs) d2.same kx _ fun G3 σ3 et l3 wz => ⟨wz.trans wipe_wipe, ?_⟩
      refine et (upd C Dp (.lst av)) H2 O' σ3 ⟨d2, n.oc, l3, n.own.mono s2⟩ _ fun b W3 H3 O3 r3 n3 => ?_
      have n03 : Nx F T (upd C Dp (.lst av)) W3 H1 H3 O3 := ⟨(n.ext.trans s2).trans n3.ext, n3.dis, n3.oc, n3.own⟩
      cases b with
      | false => exact ⟨acc, av, W3, H3, O3, rfl, n03, (ka.mono s2).mono n3.ext, r3⟩
      | true =>
        refine r3 (upd C Dp (.lst av)) H3 O3 σ3 ⟨n3.dis, n3.oc, l3.mono n3.ext, n3.own⟩ _ fun z W4 H4 O4 v ⟨hz, i4⟩ n4 k4 => ?_
        have hO : ov O4 H4 Dp = some (.lst av) := ov_own (n4.oc Dp _ upd_same)
        have ka4 := ((ka.mono s2).mono n3.ext).mono n4.ext
        refine ⟨av, hO, by rw [ka.len]; exact hz, ?_⟩
        obtain ⟨n5, e5⟩ := Nx.rehide (o' := .lst (av ++ [v])) (n03.trans n4) cp
        exact ⟨acc ++ [z], av ++ [v], W4, H4, _, e5, n5, ka4.app (.one k4), i4⟩
    · have e : i = ds.length := by omega
      subst e
      refine .inl ⟨k.2 rfl, ?_⟩
      obtain ⟨n6, np⟩ := n.show (od := .lst acc) cp ⟨av, rfl, ka⟩
      exact q (.adr Dp) _ H' O' _ (fin acc W' ii Dp np) (Nx.trans ⟨n1.ext, n1.dis, n1.oc, n1.own⟩ n6) rfl
theorem et_yes (h : Z true W) : EvT F T tYes G W Z := fun C H O σ w Q q => q true W H O h w.nx
def putG {α : Type} (ps : List (Key × α)) (k : Key) (z : α) : List (Key × α) := if (ps.any fun q => decide (q.1 = k)) = true then ps.map (fun q => if q.1 = k then (q.1, z) else q) else ps ++ [(k, z)]
theorem putG_V (kvs : List (Key × V)) (k : Key) (z : V) : putG kvs k z = putK kvs k z := rfl
/-- a dict of pairs -/
@[reducible] def OD.dp (ps : List (Key × D)) : OD := .dct (ps.map (·.1)) (ps.map (·.2))
@[reducible] def D.dp (ps : List (Key × D)) : D := .dct (ps.map (·.1)) (ps.map (·.2))
theorem any_keys {α β : Type} {k : Key} : ∀ {ps : List (Key × α)} {qs : List (Key × β)}, ps.map (·.1) = qs.map (·.1) → (ps.any fun q => decide (q.1 = k)) = qs.any fun q => decide (q.1 = k)
  | [], [], _ => rfl
  | [], q :: qs, h => by simp at h
  | p :: ps, [], h => by simp at h
  | p :: ps, q :: qs, h => by
    rw [List.map_cons, List.map_cons] at h
    obtain ⟨h1, h2⟩ := List.cons.inj h
    rw [List.any_cons, List.any_cons, any_keys h2, h1]
theorem putG_keys {α β : Type} {k : Key} {z : α} {y : β} {ps : List (Key × α)} {qs : List (Key × β)} (h : ps.map (·.1) = qs.map (·.1)) : (putG ps k z).map (·.1) = (putG qs k y).map (·.1) := by
  unfold putG
  rw [any_keys h]
  split
  · rw [List.map_map, List.map_map]
    have e1 : ∀ (α : Type) (z : α) (l : List (Key × α)), l.map ((·.1) ∘ fun q => if q.1 = k then (q.1, z) else q) = l.map (·.1) := fun α z l => List.map_congr_left fun q _ => by
      show (if q.1 = k then (q.1, z) else q).1 = q.1
      split <;> rfl
    rw [e1, e1, h]
  · rw [List.map_append, List.map_append, h]
    rfl
theorem putG_den {k : Key} {z : D} {y : V} (hz : Den F T H z y) : ∀ {ps : List (Key × D)} {kvs : List (Key × V)}, kvs.map (·.1) = ps.map (·.1) → DenL F T H (ps.map (·.2)) (kvs.map (·.2)) → DenL F T H ((putG ps k z).map (·.2)) ((putG kvs k y).map (·.2)) := by
  intro ps kvs h kl
  unfold putG
  rw [any_keys h]
  split
  · rename_i hh
    clear hh
    induction ps generalizing kvs with
    | nil =>
      cases kvs with
      | nil => exact kl
      | cons _ _ => simp at h
    | cons p ps ih =>
      cases kvs with
      | nil => simp at h
      | cons q qs =>
        rw [List.map_cons, List.map_cons] at h
        obtain ⟨h1, h2⟩ := List.cons.inj h
        obtain ⟨v, r, e, k1, k2⟩ := kl
        rw [List.map_cons] at e
        obtain ⟨e1, e2⟩ := List.cons.inj e
        subst e2
        refine ⟨_, _, rfl, ?_, ih h2 k2⟩
        show Den F T H (if p.1 = k then (p.1, z) else p).2 (if q.1 = k then (q.1, y) else q).2
        rw [h1]
        by_cases e : p.1 = k
        · rw [if_pos e, if_pos e]
          exact hz
        · rw [if_neg e, if_neg e, e1]
          exact k1
  · rw [List.map_append, List.map_append]
    exact kl.app (.one hz)
theorem putG_nodup {α : Type} {k : Key} {z : α} {ps : List (Key × α)} (h : (ps.map (·.1)).Nodup) : ((putG ps k z).map (·.1)).Nodup := by
  unfold putG
  split
  · rw [List.map_map]
    have e1 : ps.map ((·.1) ∘ fun q => if q.1 = k then (q.1, z) else q) = ps.map (·.1) := List.map_congr_left fun q _ => by
      show (if q.1 = k then (q.1, z) else q).1 = q.1
      split <;> rfl
    rw [e1]
    exact h
  · rename_i hn
    rw [List.map_append, List.nodup_append]
    refine ⟨h, by simp, fun x hx y hy e => hn ?_⟩
    have hy : y = k := by simpa using hy
    obtain ⟨q, hq, eq⟩ := List.mem_map.mp hx
    rw [List.any_eq_true]
    exact ⟨q, hq, by rw [eq, e, hy]; simp⟩
/-- what a dict gives -/
def getG {α : Type} (ps : List (Key × α)) (k : Key) : Option α := (ps.find? fun q => decide (q.1 = k)).map (·.2)
theorem getG_den {k : Key} : ∀ {ps : List (Key × D)} {kvs : List (Key × V)}, kvs.map (·.1) = ps.map (·.1) → DenL F T H (ps.map (·.2)) (kvs.map (·.2)) → (getG ps k = none ∧ valV kvs k = none) ∨ ∃ z v, getG ps k = some z ∧ valV kvs k = some v ∧ Den F T H z v
  | [], [], _, _ => .inl ⟨rfl, rfl⟩
  | [], q :: qs, h, _ => by simp at h
  | p :: ps, [], h, _ => by simp at h
  | p :: ps, q :: qs, h, kl => by
    rw [List.map_cons, List.map_cons] at h
    obtain ⟨h1, h2⟩ := List.cons.inj h
    obtain ⟨v, r, e, k1, k2⟩ := kl
    rw [List.map_cons] at e
    obtain ⟨e1, e2⟩ := List.cons.inj e
    subst e2
    unfold getG valV
    rw [List.find?_cons, List.find?_cons, h1]
    by_cases e : p.1 = k
    · rw [decide_eq_true e]
      exact .inr ⟨p.2, q.2, rfl, rfl, by rw [e1]; exact k1⟩
    · rw [decide_eq_false e]
      exact getG_den h2 k2
/-- d is a dict of ps: frozen, or owned -/
def Vd (W : Om) (d : D) (ps : List (Key × D)) : Prop := d = .dp ps ∨ ∃ a, d = .adr a ∧ (a, .dp ps) ∈ W
theorem Vd.at {x : V} {ps : List (Key × D)} (h : Vd W d ps) (di : Dis O H) (ow : Ow F T H C O W) (k : Den F T H d x) : ∃ a kvs, x = .ref a ∧ ov O H a = some (.dK kvs) ∧ kvs.map (·.1) = ps.map (·.1) ∧ (ps.map (·.1)).Nodup ∧ DenL F T H (ps.map (·.2)) (kvs.map (·.2)) := by
  rcases h with rfl | ⟨a, rfl, m⟩
  · obtain ⟨a, kvs, e, h1, h2, h3, h4⟩ := k
    exact ⟨a, kvs, e, di.same _ _ h1, h2, h3, h4⟩
  · obtain ⟨_, kvs, h1, h2, h3, h4⟩ := ow.at_ a _ m
    exact ⟨a, kvs, k, ov_own h1, h2, h3, h4⟩
/-- a key as a datum -/
def kD (k : Key) : D := .vl (kV k)
theorem ev_dnew (h : ∀ p, p ∉ akeys W → R (.adr p) ((p, .dp []) :: W)) : Ev F T tDNewK G W R := fun C H O σ w Q q p hp => by
  obtain ⟨n2, e, np⟩ := w.nx.newO (od := .dp []) (o := .dK []) hp ⟨[], rfl, rfl, List.nodup_nil, rfl⟩
  rw [e]
  exact q (.adr p) _ _ _ _ (h p np) n2 rfl
/-- d[k] -/
theorem ev_dget (h : Ev F T ta G W fun d W1 => Ev F T tb G W1 fun y W2 => ∃ ps k z, Vd W2 d ps ∧ y = kD k ∧ getG ps k = some z ∧ R z W2) : Ev F T (tDGet ta tb) G W R := fun C H O σ w Q q =>
  h C H O σ w _ fun d W1 H1 O1 x h1 n1 k1 => h1 C H1 O1 σ (w.step n1) _ fun y W2 H2 O2 yv ⟨ps, k, z, hv, ey, hg, r⟩ n2 k2 => by
    subst ey
    obtain ⟨a, kvs, ex, ha, e1, e2, kl⟩ := hv.at n2.dis n2.own (k1.mono n2.ext)
    have k2 : yv = kV k := k2
    subst ex k2
    rcases getG_den (k := k) e1 kl with ⟨g1, _⟩ | ⟨z', v, g1, g2, kz⟩
    · rw [g1] at hg
      cases hg
    · rw [g1] at hg
      cases hg
      exact ⟨a, v, rfl, .inl ⟨kvs, k, .inl ha, rfl, g2.symm⟩, q z W2 H2 O2 v r (n1.trans n2) kz⟩
/-- k in d, k not in d -/
theorem run_din {ps : List (Key × D)} {k : Key} {x yv : V} (hv : Vd W d ps) (di : Dis O H) (ow : Ow F T H C O W) (k2 : Den F T H d x) (k1 : yv = kV k) : ∃ a o, x = .ref a ∧ DGet (ov O H) a yv o ∧ o.isSome = (getG ps k).isSome := by
  obtain ⟨a, kvs, ex, ha, e1, e2, kl⟩ := hv.at di ow k2
  subst ex k1
  refine ⟨a, valV kvs k, rfl, .inl ⟨kvs, k, .inl ha, rfl, rfl⟩, ?_⟩
  rcases getG_den (k := k) e1 kl with ⟨g1, g2⟩ | ⟨z', v, g1, g2, kz⟩
  · rw [g1, g2]
    rfl
  · rw [g1, g2]
    rfl
theorem ev_din (h : Ev F T tb G W fun y W1 => Ev F T ta G W1 fun d W2 => ∃ ps k, Vd W2 d ps ∧ y = kD k ∧ R (.bl (getG ps k).isSome) W2) : Ev F T (tDIn tb ta) G W R := fun C H O σ w Q q =>
  h C H O σ w _ fun y W1 H1 O1 yv h1 n1 k1 => h1 C H1 O1 σ (w.step n1) _ fun d W2 H2 O2 x ⟨ps, k, hv, ey, r⟩ n2 k2 => by
    subst ey
    obtain ⟨a, o, ex, g, e⟩ := run_din hv n2.dis n2.own k2 k1
    refine ⟨a, o, ex, g, ?_⟩
    rw [e]
    exact q _ W2 H2 O2 _ r (n1.trans n2) rfl
theorem ev_dnotin (h : Ev F T tb G W fun y W1 => Ev F T ta G W1 fun d W2 => ∃ ps k, Vd W2 d ps ∧ y = kD k ∧ R (.bl (!(getG ps k).isSome)) W2) : Ev F T (tDNotIn tb ta) G W R := fun C H O σ w Q q =>
  h C H O σ w _ fun y W1 H1 O1 yv h1 n1 k1 => h1 C H1 O1 σ (w.step n1) _ fun d W2 H2 O2 x ⟨ps, k, hv, ey, r⟩ n2 k2 => by
    subst ey
    obtain ⟨a, o, ex, g, e⟩ := run_din hv n2.dis n2.own k2 k1
    refine ⟨a, o, ex, g, ?_⟩
    rw [e]
    exact q _ W2 H2 O2 _ r (n1.trans n2) rfl
/-- d[k] = e -/
theorem sw_dput {td ty tv : TE} {Ed : En} (h : Ev F T tv G W fun z W1 => Ev F T td G W1 fun d W2 => Ev F T ty G W2 fun y W3 => ∃ a ps k Wa Wb, d = .adr a ∧ W3 = Wa ++ (a, .dp ps) :: Wb ∧ y = kD k ∧ ps.length < sizeLine ∧ Ed.nx G (Wa ++ (a, .dp (putG ps k z)) :: Wb)) : Sw F T (sDPut td ty tv) G W Ed := fun C H O σ w B b =>
  h C H O σ w _ fun z W1 H1 O1 zv h1 n1 k1 => h1 C H1 O1 σ (w.step n1) _ fun d W2 H2 O2 x h2 n2 k2 => h2 C H2 O2 σ ((w.step n1).step n2) _ fun y W3 H3 O3 yv ⟨a, ps, k, Wa, Wb, e1, e2, e3, hl, r⟩ n3 k3 => by
    subst e1 e2 e3
    have k2 : x = .ref a := k2
    have k3 : yv = kV k := k3
    subst k2 k3
    obtain ⟨_, kvs, ha, f1, f2, kl⟩ := n3.own.at_ a _ (List.mem_append_right _ List.mem_cons_self)
    have nn := (n1.trans n2).trans n3
    have hl2 : kvs.length = ps.length := by
      have := congrArg List.length f1
      rwa [List.length_map, List.length_map] at this
    refine ⟨a, _, rfl, DPut.k (ov_own ha) (by rw [hl2]; exact hl), ?_⟩
    obtain ⟨n4, e4⟩ := nn.write (o := .dK (putK kvs k zv)) (od2 := .dp (putG ps k z)) ⟨_, rfl, (putG_V kvs k zv) ▸ putG_keys (z := zv) (y := z) f1, putG_nodup f2, (putG_V kvs k zv) ▸ putG_den ((k1.mono n2.ext).mono n3.ext) f1 kl⟩
    rw [e4]
    exact b.nx _ _ _ _ _ r n4 (w.loc.mono nn.ext)
/-- {k: e for .. in .. if ..} -/
theorem ev_dc {wi : TI} {g : TG} (h : EvI F T wi G W fun ds W1 => ∃ I : Nat → List (Key × D) → Om → Prop, I 0 [] W1 ∧
      (∀ i d acc W', ds[i]? = some d → I i acc W' → Tw F T vs g d (wipeG G vs) fun G2 => EvT F T t G2 W' fun b W2 => if b = true then Ev F T te G2 W2 (fun y W3 => Ev F T tv G2 W3 fun z W4 => ∃ k, y = kD k ∧ acc.length < sizeLine ∧ I (i + 1) (putG acc k z) W4) else I (i + 1) acc W2) ∧
      (∀ acc W', I ds.length acc W' → ∀ p, p ∉ akeys W' → R (.adr p) ((p, .dp acc) :: W'))) : Ev F T (tDc wi g t te tv vs) G W R := fun C H O σ w Q q =>
  h C H O σ w _ fun J ds W1 H1 O1 ⟨I, i0, turn, fin⟩ n1 wk Dp hD => by
    obtain ⟨n0, e0, cp⟩ := n1.hide (o := .dK []) hD
    refine ⟨fun i m X => m = ds.length - i ∧ i ≤ ds.length ∧ ∃ acc av W' H' O', X = ov O' H' ∧ Nx F T (upd C Dp (.dK av)) W' H1 H' O' ∧ (av.map (·.1) = acc.map (·.1) ∧ (acc.map (·.1)).Nodup ∧ DenL F T H' (acc.map (·.2)) (av.map (·.2))) ∧ I i acc W', ⟨ds.length, by simp, Nat.zero_le _, [], [], W1, H1, _, e0, n0, ⟨rfl, List.nodup_nil, (show DenL F T H1 (([] : List (Key × D)).map (·.2)) (([] : List (Key × V)).map (·.2)) from rfl)⟩, i0⟩, ?_⟩
    rintro i m X ⟨rfl, hi, acc, av, W', H', O', rfl, n, ⟨ka1, ka2, ka⟩, ii⟩
    have k := wk i H' O' n.ext n.dis
    have lo1 := (w.loc.mono n1.ext).mono n.ext
    by_cases hlt : i < ds.length
    · obtain ⟨k1, k2⟩ := k.1 ds[i] (by simp [hlt])
      refine .inr ⟨k1, fun X2 => ∃ acc av W2 H2 O2, X2 = ov O2 H2 ∧ Nx F T (upd C Dp (.dK av)) W2 H1 H2 O2 ∧ (av.map (·.1) = acc.map (·.1) ∧ (acc.map (·.1)).Nodup ∧ DenL F T H2 (acc.map (·.2)) (av.map (·.2))) ∧ I (i + 1) acc W2, fun X2 y => ⟨ds.length - (i + 1), by omega, rfl, hlt, y⟩, fun x X2 y => ?_⟩
      obtain ⟨H2, s2, d2, rfl, kx⟩ := k2 x X2 y
      refine turn i ds[i] acc W' (by simp [hlt]) ii H2 _ _ x ((lo1.mono s2).wipe vs) d2.same kx _ fun G3 σ3 et l3 wz => ⟨wz.trans wipe_wipe, ?_⟩
      refine et (upd C Dp (.dK av)) H2 O' σ3 ⟨d2, n.oc, l3, n.own.mono s2⟩ _ fun b W3 H3 O3 r3 n3 => ?_
      have n03 : Nx F T (upd C Dp (.dK av)) W3 H1 H3 O3 := ⟨(n.ext.trans s2).trans n3.ext, n3.dis, n3.oc, n3.own⟩
      cases b with
      | false => exact ⟨acc, av, W3, H3, O3, rfl, n03, ⟨ka1, ka2, (ka.mono s2).mono n3.ext⟩, r3⟩
      | true =>
        have w3 : Wd F T (upd C Dp (.dK av)) G3 W3 H3 O3 σ3 := ⟨n3.dis, n3.oc, l3.mono n3.ext, n3.own⟩
        refine r3 (upd C Dp (.dK av)) H3 O3 σ3 w3 _ fun y W4 H4 O4 yv r4 n4 k4 => ?_
        refine r4 (upd C Dp (.dK av)) H4 O4 σ3 (w3.step n4) _ fun z W5 H5 O5 zv ⟨k', ey, hz, i5⟩ n5 k5 => ?_
        subst ey
        have k4 : yv = kV k' := k4
        subst k4
        have hO : ov O5 H5 Dp = some (.dK av) := ov_own (n5.oc Dp _ upd_same)
        have ka5 := (((ka.mono s2).mono n3.ext).mono n4.ext).mono n5.ext
        have hl2 : av.length = acc.length := by
          have := congrArg List.length ka1
          rwa [List.length_map, List.length_map] at this
        refine ⟨av, k', rfl, hO, by rw [hl2]; exact hz, ?_⟩
        obtain ⟨n6, e6⟩ := Nx.rehide (o' := .dK (putK av k' zv)) ((n03.trans n4).trans n5) cp
        exact ⟨putG acc k' z, putK av k' zv, W5, H5, _, e6, n6, ⟨(putG_V av k' zv) ▸ putG_keys (z := zv) (y := z) ka1, putG_nodup ka2, (putG_V av k' zv) ▸ putG_den k5 ka1 ka5⟩, i5⟩
    · have e : i = ds.length := by omega
      subst e
      refine .inl ⟨k.2 rfl, ?_⟩
      obtain ⟨n6, np⟩ := n.show (od := .dp acc) cp ⟨av, rfl, ka1, ka2, ka⟩
      exact q (.adr Dp) _ H' O' _ (fin acc W' ii Dp np) (Nx.trans ⟨n1.ext, n1.dis, n1.oc, n1.own⟩ n6) rfl
theorem ei_str {Y : List D → Om → Prop} (h : Ev F T te G W fun d W1 => ∃ z : Str, d = .str z ∧ Y (z.cps.toList.map fun c => .str ⟨#[c]⟩) W1) : EvI F T (iStr te) G W Y := fun C H O σ w Q q =>
  h C H O σ w _ fun d W1 H1 O1 v ⟨z, e, y⟩ n k => by
    subst e
    have k : v = .str z := k
    refine ⟨z, k, q _ _ W1 H1 O1 y n fun i H2 O2 s di => ⟨fun d hd => ?_, fun e => ?_⟩⟩
    · rw [List.getElem?_map] at hd
      cases hc : z.cps.toList[i]? with
      | none =>
        rw [hc] at hd
        cases hd
      | some c =>
        rw [hc] at hd
        have hd : D.str ⟨#[c]⟩ = d := Option.some.inj hd
        subst hd
        have hc' : z.cps[i]? = some c := by simpa using hc
        refine ⟨(Array.getElem?_eq_some_iff.mp hc').1, fun x X ⟨e1, c2, e2, e3⟩ => ⟨H2, Same.refl _, di, e1, ?_⟩⟩
        rw [hc'] at e2
        cases e2
        exact e3
    · rw [List.length_map, Array.length_toList] at e
      show z.cps.size ≤ i
      omega
end
end N
set_option Elab.async false
set_option linter.all false
set_option maxRecDepth 100000
namespace N
open PySem PySem.Spec PyProof.Rows L2
section
variable {X : Cx} {CX : CXT} {k : Nat} {C f : Addr} {fd : FuncData} {ps ks : List Str} {sp : Sp} {E : XK} {pins : List (Addr × Obj)} {σ : L2.St} {H : Hp} {s : Shared}
/-- a def is called from anywhere within the body -/
theorem run_at {A : Around} {vs : List V} {us : List Value} {Q : VK} (F : FnOk X.prog X.w X.K X.mg X.base CX k f fd ps sp) (hr : Room k A) (fr : A.frames = X.A.frames) (hb : Binds X.K fd ps []) (hx : Passes CX X E) (I : Inv X pins σ H s) (r : Vals vs us) (h : sp vs H Q E) :
    wpAny (model X.prog X.w) A (call (.ref f) us) (EP X pins σ Q) X.xe s := by
  have e := I.env0
  have e0 : Env0 X.prog X.w X.K X.mg X.base A X.stack s H := ⟨by rw [fr]; exact e.frames, e.mod, e.bs, e.bsz, e.funs, e.frf, e.hok, e.bare⟩
  have hl : us.length = ps.length := by rw [← r.length]; exact F.len _ _ _ _ h
  have hb' := hb s us I.kIn (by simpa using hl)
  simp only [List.append_nil] at hb'
  refine wpAny_call (codeAny_mono (F.run A X.stack s H ⟨us, []⟩ us vs Q E hr e0 hb' r h) fun r s' hq => ?_)
  cases r with
  | error e => exact hx pins σ H s e s' I hq
  | ok fl =>
    cases fl with
    | ret u => exact I.after hq
    | next => exact False.elim hq
    | brk => exact False.elim hq
    | cont => exact False.elim hq
/-- an instance's method of the class, by a name between two underscores -/
structure Own2 (K : PySem.W.Frag) (C : Addr) (m : Str) (f : Addr) : Prop where
  at_ : PySem.W.findIn K (.ref C) m = some (some (.ref f))
  fn : PySem.W.isFn K (.ref f) = true
def rOwn1 (C : Addr) (sp : Sp) (E : XK) : V → Hp → VK → Prop := fun x H Q => ∃ a dx fs, x = .ref a ∧ H a = some (.ins C dx fs) ∧ sp [x] H Q E
def rOwn2 (C : Addr) (sp : Sp) (E : XK) : R2 := fun x y H Q => ∃ a b dx dy fs gs, x = .ref a ∧ y = .ref b ∧ H a = some (.ins C dx fs) ∧ H b = some (.ins C dy gs) ∧ sp [x, y] H Q E
theorem inst_of {a dx : Addr} {fs : List (Str × V)} (I : Inv X pins σ H s) (e : H a = some (.ins C dx fs)) : ∃ od, PySem.W.InstAt s.heap a (PySem.W.instObj C dx) C (some od) := by
  obtain ⟨mA, J, _⟩ := ins_get I.hok e
  obtain ⟨od, J, _⟩ := J.look
  exact ⟨od, J⟩
/-- str(x) by the own method -/
theorem call_own_str (F : FnOk X.prog X.w X.K X.mg X.base CX k f fd ps sp) (hr : Room (k + 2) X.A) (o : Own2 X.K C "__str__" f) (hb : Binds X.K fd ps []) (hx : Passes CX X E) :
    CallR X (.type "str") (fun xs H Q => ∃ a dx fs, xs = [.ref a] ∧ H a = some (.ins C dx fs) ∧ sp [.ref a] H (fun v H' => (∃ z, v = .str z) ∧ Q v H') E) := by
  intro pins s σ H xs us Q I r hq
  obtain ⟨a, dx, fs, rfl, ha, q⟩ := hq
  obtain ⟨u, rfl, rx⟩ := vals1 r
  cases rx
  obtain ⟨od, J⟩ := inst_of I ha
  have h1 := hr.in1
  have h2 := h1.in1
  refine PySem.W.kso_call h2.units0 I.kIn J o.at_ o.fn (thn (run_at F h2 rfl hb hx I (vs := [V.ref a]) (.cons rfl .nil) q) fun v s' h => ?_)
  obtain ⟨x, H', I', rx, ⟨z, ez⟩, q'⟩ := h
  subst ez
  obtain ⟨t, rfl⟩ := rx
  exact ⟨.str z, H', I', ⟨t, rfl⟩, q'⟩
/-- len(x) by the own method -/
theorem call_own_len (F : FnOk X.prog X.w X.K X.mg X.base CX k f fd ps sp) (hr : Room (k + 1) X.A) (o : Own2 X.K C "__len__" f) (hb : Binds X.K fd ps []) (hx : Passes CX X E) :
    CallR X (.builtin "len") (fun xs H Q => ∃ a dx fs, xs = [.ref a] ∧ H a = some (.ins C dx fs) ∧ sp [.ref a] H (fun v H' => (∃ n : Int, v = .int n ∧ 0 ≤ n ∧ n < 2 ^ 63) ∧ Q v H') E) := by
  intro pins s σ H xs us Q I r hq
  obtain ⟨a, dx, fs, rfl, ha, q⟩ := hq
  obtain ⟨u, rfl, rx⟩ := vals1 r
  cases rx
  obtain ⟨od, J⟩ := inst_of I ha
  obtain ⟨m, hF⟩ := I.fr
  refine PySem.W.len_K hF I.ok.mod.kin J o.at_ o.fn (thn (run_at F hr.in1 rfl hb hx I (vs := [V.ref a]) (.cons rfl .nil) q) fun v s' h => ?_)
  obtain ⟨x, H', I', rx, ⟨n, ez, h0, h1⟩, q'⟩ := h
  subst ez
  obtain ⟨t, rfl⟩ := rx
  exact ⟨⟨h0, h1⟩, .int n, H', I'.tok _, ⟨_, rfl⟩, q'⟩
/-- o.f as a target -/
theorem pg_fld {o : Expr} {g : Str} {pos : Pos} {ta : TE} (ha : PE X o ta) : PG X (.Attribute o g pos) (gFld X.K ta g) := by
  refine ⟨fun pins s σ H v u Q I r h => ?_⟩
  rw [assign_Attribute]
  refine wpAny_bind (wpAny_holding (thn (ha.run pins s σ H _ I h) fun ov s1 ⟨x, H1, I1, r1, a, C, dx, fs, ex, ea, c, n, l, q⟩ => ?_))
  subst ex
  obtain rfl : ov = Value.ref a := r1
  refine wpAny_bind (wpAny_standAt (wpAny_bind (wpAny_holding (setattr_ok I1 ea c n l r fun s3 I3 => ?_))))
  exact wpAny_release ⟨σ, _, I3, q⟩
end
end N
set_option Elab.async false
set_option linter.all false
set_option maxRecDepth 100000
set_option maxHeartbeats 400000
namespace N
open PySem PySem.Spec PyProof.Rows L2
mutual
def D.pd : D → Option PyData
  | .vl .non => some .none
  | .vl (.bl b) => some (.bool b)
  | .vl (.int i) => some (.int i)
  | .vl (.str s) => some (.str s)
  | .vl _ => none
  | .tup l => (pdL l).map .tuple
  | .lst l => (pdL l).map .list
  | .dct _ _ => none
  | .obj _ _ _ => none
  | .fm _ => none
  | .scr _ => none
  | .nkd _ _ _ => none
  | .tupz _ => none
def pdL : List D → Option (List PyData)
  | [] => some []
  | d :: l => match D.pd d, pdL l with
    | some p, some r => some (p :: r)
    | _, _ => none
end
theorem pdL_cons {d : D} {l : List D} {p : PyData} {r : List PyData} (h1 : d.pd = some p) (h2 : pdL l = some r) : pdL (d :: l) = some (p :: r) := by
  simp only [pdL, h1, h2]
theorem pdL_map {α : Type} (f : α → D) (g : α → PyData) (h : ∀ x, (f x).pd = some (g x)) : ∀ l : List α, pdL (l.map f) = some (l.map g)
  | [] => rfl
  | x :: l => pdL_cons (h x) (pdL_map f g h l)
theorem pd_lst {l : List D} {r : List PyData} (h : pdL l = some r) : (D.lst l).pd = some (.list r) := by simp only [D.pd, h, Option.map_some]
section
variable {F : FmKit} {T : Kx} {C H H' O O' : Hp} {G : Gm} {W W' : Om} {R R' : D → Om → Prop}
mutual
theorem Den.dp : ∀ (d : D) (v : V) (p : PyData), Den F T H d v → d.pd = some p → Dp T.K H v p
  | .vl .non, _, p, h, e => by
    have h : _ = _ := h
    simp only [D.pd, Option.some.injEq] at e
    subst h e
    exact .non
  | .vl (.bl b), _, p, h, e => by
    have h : _ = _ := h
    simp only [D.pd, Option.some.injEq] at e
    subst h e
    exact .bl b
  | .vl (.int i), _, p, h, e => by
    have h : _ = _ := h
    simp only [D.pd, Option.some.injEq] at e
    subst h e
    exact .int i
  | .vl (.str s), _, p, h, e => by
    have h : _ = _ := h
    simp only [D.pd, Option.some.injEq] at e
    subst h e
    exact .str s
  | .vl (.byt _), _, p, _, e => by simp only [D.pd] at e; cases e
  | .vl (.flt _), _, p, _, e => by simp only [D.pd] at e; cases e
  | .vl (.ref _), _, p, _, e => by simp only [D.pd] at e; cases e
  | .vl (.ty _), _, p, _, e => by simp only [D.pd] at e; cases e
  | .tup l, _, p, ⟨a, xs, h1, h2, h3⟩, e => by
    subst h1
    simp only [D.pd] at e
    cases q : pdL l with
    | none =>
      rw [q] at e
      cases e
    | some r =>
      rw [q] at e
      cases e
      exact .tup h2 (DenL.dp l xs r h3 q)
  | .lst l, _, p, ⟨a, xs, h1, h2, h3⟩, e => by
    subst h1
    simp only [D.pd] at e
    cases q : pdL l with
    | none =>
      rw [q] at e
      cases e
    | some r =>
      rw [q] at e
      cases e
      exact .lst (SqL.of h2) (DenL.dp l xs r h3 q)
  | .dct _ _, _, p, _, e => by simp only [D.pd] at e; cases e
  | .obj _ _ _, _, p, _, e => by simp only [D.pd] at e; cases e
  | .fm _, _, p, _, e => by simp only [D.pd] at e; cases e
  | .scr _, _, p, _, e => by simp only [D.pd] at e; cases e
  | .nkd _ _ _, _, p, _, e => by simp only [D.pd] at e; cases e
  | .tupz _, _, p, _, e => by simp only [D.pd] at e; cases e
theorem DenL.dp : ∀ (l : List D) (vs : List V) (ps : List PyData), DenL F T H l vs → pdL l = some ps → DpAll T.K H vs ps
  | [], _, ps, h, e => by
    have h : _ = _ := h
    simp only [pdL, Option.some.injEq] at e
    subst h e
    exact .nil
  | d :: l, _, ps, ⟨v, r, h1, h2, h3⟩, e => by
    subst h1
    simp only [pdL] at e
    cases q : D.pd d with
    | none =>
      rw [q] at e
      cases e
    | some p =>
      cases q2 : pdL l with
      | none =>
        rw [q, q2] at e
        cases e
      | some rs =>
        rw [q, q2] at e
        cases e
        exact .cons (Den.dp d v p h2 q) (DenL.dp l r rs h3 q2)
end
/-- d is the datum p: frozen, or an owned list of such -/
def Vp (W : Om) (d : D) (p : PyData) : Prop := d.pd = some p ∨ ∃ l, Vl W d l ∧ (D.lst l).pd = some p
theorem Vp.at {d : D} {p : PyData} {x : V} (h : Vp W d p) (di : Dis O H) (ow : Ow F T H C O W) (k : Den F T H d x) : Dp T.K (ov O H) x p := by
  rcases h with h | ⟨l, hv, h⟩
  · exact Den.dp d x p (k.mono di.same) h
  · obtain ⟨a, xs, e, hs, kl⟩ := hv.sq ow di k
    simp only [D.pd] at h
    cases q : pdL l with
    | none =>
      rw [q] at h
      cases h
    | some r =>
      rw [q] at h
      cases h
      subst e
      exact .lst hs (DenL.dp l xs r (kl.mono di.same) q)
theorem bo_neD {d1 d2 : D} {p q : PyData} (h1 : Vp W d1 p) (h2 : Vp W d2 q) (s1 : SeqAt.shaped p = true) (s2 : SeqAt.shaped q = true) (r : R (.bl (!PyData.eqv p q)) W) : Bo F T (rNeD T.K) d1 d2 W R := fun C H O di oc ow x y hx hy Q k =>
  ⟨p, q, h1.at di ow hx, h2.at di ow hy, s1, s2, k _ W H O _ r (.refl di oc ow) rfl⟩
end
def FnG (P : Program) (w : World) (K : PySem.W.Frag) (mg : Str → Option Value) (base : Heap) (k : Nat) (f : Addr) (sp : Sp) : Prop :=
  ∀ (A : Around) (outer : List Env) (s : Shared) (H : Hp) (us : List Value) (vs : List V) (Q : VK), A.guards = some [] → Room k A → Env0 P w K mg base A outer s H → Vals vs us → sp vs H Q E0 → codeAny (model P w) A (.call (.ref f) ⟨us, []⟩) (CR CX0 outer P w H s Q E0) s
section
variable {P : Program} {w : World} {K : PySem.W.Frag} {mg : Str → Option Value} {base : Heap}
theorem Fun.okG {x qual : Str} {st : Stmt} {f : Addr} {fd : FuncData} {N ps : List Str} {k : Nat} {sp : Sp} (Fn : Fun K x qual st f fd) (S : FnScope N ps (defScope st)) (len : ∀ vs H Q E, sp vs H Q E → vs.length = ps.length)
    (hb : ∀ (kV doc pm : Value) (an : Option Addr) (cdv ct : Value) (us : List Value), us.length = ps.length → bindArgs (PySem.W.fnOf x qual (defArgs st) (defBody st) (defScope st) .none kV doc pm an cdv ct) ⟨us, []⟩ = pure (ps.zip us))
    (hbody : ∀ (cdv : Value) (A : Around) (outer : List Env) (s : Shared) (H : Hp) (vs : List V) (Q : VK), (A.deeper (envOfC qual (defScope st) s.heap.objs.size f cdv)).guards = some [] → Room k (A.deeper (envOfC qual (defScope st) s.heap.objs.size f cdv)) → sp vs H Q E0 →
      ∃ t, PSs (cxOf CX0 P w K mg base N qual (defScope st) f cdv A outer s H E0).nox (defBody st) t ∧ t { nx := fun _ H' => Q .non H', rt := Q } (start N vs) H) : FnG P w K mg base (k + 1) f sp := by
  obtain ⟨oc, od, kV, doc, pm, an, cdv, ct, osl, rfl, lk, hcd⟩ := Fn.ex
  intro A outer s H us vs Q hg hr e0 r hsp
  have hl := len _ _ _ _ hsp
  refine StX.run_bnd lk hcd S hr e0 (G := fun xs H2 => xs = vs ∧ H2 = H) (fun A' Ex Q' h => ?_) fun s2 H2 xs ⟨e1, e2⟩ hr' => ?_
  · rw [hb kV doc pm an cdv ct us (by rw [← r.length]; exact hl)]
    exact wpAny_pure (h s H vs us e0 Un.refl rfl (fun _ _ z => z) r hl ⟨rfl, rfl⟩)
  · subst e1 e2
    obtain ⟨t, ht, q⟩ := hbody cdv A outer s2 _ _ Q hg hr' hsp
    exact ⟨t, ht.nox, q⟩
end
theorem lawG {P : Program} {w : World} {K : PySem.W.Frag} {mg mb : Str → Option Value} {k : Nat} {fa a : Addr} {sp : Sp} {s1 : Shared} {vs : List Value} {ns : List Int}
    (KX : K.In s1.heap) (hns : s1.heap.Ns mainGlobals mg) (hb : s1.heap.Ns builtinsNs mb) (hbb : ∀ x : Str, x ≠ "__name__" → mb x = bootBuiltins x) (hlim : s1.heap.NoLimit) (hg : s1.gens = #[])
    (ha : s1.heap.get? a = some { cls := .type "list", data := .seq vs.toArray }) (hi : IntsAre vs ns) (hl : ns.length ≤ sizeLine) (hr : Room k callerA)
    (Fn : ∀ base : Heap, K.In base → base.Ns mainGlobals mg → FnG P w K mg base k fa sp)
    (hsp : ∀ H : Hp, Only H → SqL K H a (ns.map V.int) → sp [.ref a] H (fun v _ => v = .bl true) E0) :
    codeAny (model P w) callerA (.call (.ref fa) ⟨[.ref a], []⟩) (fun r s' => r = .ok (.ret (.bool true)) ∧ OldK s1.heap s'.heap ∧ s'.os = s1.os ∧ AllBare s'.gens) s1 := by
  have rv := vals_ints hi
  have lenV := hi.length
  have core : ∀ H : Hp, Only H → SqL K H a (ns.map V.int) → HOk P w H s1.heap → (∀ b, H b ≠ none → b = a) → (H a ≠ none → K.lookup a = none) →
      codeAny (model P w) callerA (.call (.ref fa) ⟨[.ref a], []⟩) (fun r s' => r = .ok (.ret (.bool true)) ∧ OldK s1.heap s'.heap ∧ s'.os = s1.os ∧ AllBare s'.gens) s1 := by
    intro H hO hS hok hA hK
    have one : ∀ {b : Addr}, H b ≠ none → b = a := fun z => hA _ z
    have free : ∀ {b : Addr}, (b = a → False) → H b = none := fun {b} z => by
      cases q : H b with
      | none => rfl
      | some u => exact (z (one (by rw [q]; simp))).elim
    have notA : ∀ {b : Addr} {o : Obj} {es : Array DictEntry} {ep : Nat}, s1.heap.get? b = some o → o.data = .dict es ep → H b = none := fun {b o es ep} e d => free fun z => by
      subst z
      rw [ha] at e
      cases e
      cases (show Data.seq vs.toArray _ = Data.dict es ep from d)
    have nsK : ∀ {b : Addr} {m : Str → Option Value}, s1.heap.Ns b m → (hidT s1.heap H).Ns b m := fun ⟨o, es, ep, e, d, r⟩ => ⟨o, es, ep, hidT_get e (notA e d), d, r⟩
    have hKb : K.In (hidT s1.heap H) := fun b o e => hidT_get (KX b o e) (by
      cases q : H b with
      | none => rfl
      | some u =>
        have eb : b = a := one (by rw [q]; simp)
        subst eb
        rw [hK (by rw [q]; simp)] at e
        cases e)
    have hM : Mod K mg (hidT s1.heap H) := ⟨hKb, nsK hns, ⟨mb, nsK hb, hbb⟩, let ⟨mc, h1, h2⟩ := hlim; ⟨mc, nsK h1, h2⟩⟩
    have e0 : Env0 P w K mg (hidT s1.heap H) callerA [] s1 H := ⟨rfl, hM, fun b o e => of_hidT e, Nat.le_of_eq (hidT_size _ _), trivial, fun b hb => absurd (show b ∈ ([] : List Addr) from hb) (by simp), hok, .of_eq hg⟩
    refine codeAny_mono (Fn _ hKb (nsK hns) callerA [] s1 H [.ref a] [.ref a] _ rfl hr e0 (.cons rfl .nil) (hsp H hO hS)) fun r s' h => ?_
    cases r with
    | error e => exact False.elim h
    | ok fl =>
      cases fl with
      | next => exact False.elim h
      | brk => exact False.elim h
      | cont => exact False.elim h
      | ret u =>
        obtain ⟨v, H', os, bare, un, hok', r', q⟩ := h
        have ev : v = .bl true := q
        subst ev
        obtain rfl : u = Value.bool true := r'
        refine ⟨rfl, OldK.of_keep fun b o e => ?_, os, bare⟩
        cases q : H b with
        | none => exact un.keep b o e q (by intro z; exact absurd (show b ∈ ([] : List Addr) from z) (by simp)) (by simp)
        | some u =>
          rcases hO b with z | ⟨ob, xs, z⟩
          · rw [q] at z
            cases z
          · obtain ⟨e1, _⟩ := hok b _ z
            obtain ⟨e2, _⟩ := hok' b _ (un.frzs b ob _ z)
            rw [e] at e1
            cases e1
            exact e2
  cases hk : K.lookup a with
  | some o =>
    have e := KX a o hk
    rw [ha] at e
    cases e
    exact core (fun _ => none) (fun _ => .inl rfl) (.inr ⟨_, vs.toArray, _, hk, rfl, rfl, rfl, by rw [List.size_toArray, lenV]; exact hl, by simpa using rv⟩) (fun b u z => nomatch (show (none : Option HO) = some u from z)) (fun b z => absurd rfl z) fun z => absurd rfl z
  | none =>
    refine core (fun b => if b = a then some (.frz { cls := .type "list", data := .seq vs.toArray } (.lst (ns.map V.int))) else none) (fun b => ?_) (.inl (.inr ⟨{ cls := .type "list", data := .seq vs.toArray }, if_pos rfl⟩)) (fun b u z => ?_) (fun b z => ?_) fun _ => hk
    · by_cases hb : b = a
      · exact .inr ⟨_, _, if_pos hb⟩
      · exact .inl (if_neg hb)
    · by_cases hb : b = a
      · have e := (if_pos hb).symm.trans z
        cases e
        subst hb
        exact ⟨ha, by rw [List.length_map]; exact hl, vs, _, rv, ha⟩
      · cases (if_neg hb).symm.trans z
    · by_cases hb : b = a
      · exact hb
      · exact absurd (if_neg hb) z
end N
set_option Elab.async false
set_option linter.all false
set_option maxRecDepth 100000
namespace N
open PySem PySem.Spec PyProof.Rows L2
def startD (N : List Str) (ds : List D) : Gm := ds.map some ++ List.replicate (N.length - ds.length) none
section
variable {F : FmKit} {T : Kx} {H : Hp}
theorem DenL.lo {N : List Str} {ds : List D} {vs : List V} (k : DenL F T H ds vs) : Lo F T H (startD N ds) (L2.start N vs) := by
  refine ⟨?_, fun i d h => ?_⟩
  · unfold L2.start startD
    simp [k.len]
  · unfold startD at h
    unfold L2.start
    by_cases hi : i < ds.length
    · rw [List.getElem?_append_left (by simpa using hi), List.getElem?_map] at h
      cases e : ds[i]? with
      | none =>
        rw [e] at h
        cases h
      | some d' =>
        rw [e] at h
        cases h
        obtain ⟨v, hv, kv⟩ := k.get e
        refine ⟨v, ?_, kv⟩
        rw [List.getElem?_append_left (by rw [List.length_map, k.len]; exact hi), List.getElem?_map, hv]
        rfl
    · rw [List.getElem?_append_right (by simpa using hi), List.getElem?_replicate] at h
      split at h <;> cases h
end
section
variable {P : Program} {w : World} {K : PySem.W.Frag} {mg : Str → Option Value} {base : Heap} {F : FmKit} {cl : Nat → Addr} {S : FS}
theorem spN_len {n : Nat} (len : ∀ ds W post, S ds W post → ds.length = n) : ∀ vs H Q E, spN F ⟨K, cl⟩ S vs H Q E → vs.length = n := fun vs H Q E ⟨ds, W, C, H1, O, post, _, _, _, _, k, h, _⟩ => by
  rw [k.len]
  exact len ds W post h
/-- the end of a body meets the wish of the call -/
theorem body_run {N : List Str} {t : TS} {vs : List V} {H : Hp} {Q : VK} {E : XK} (h : spN F ⟨K, cl⟩ S vs H Q E) (b : ∀ ds W post, S ds W post → Sw F ⟨K, cl⟩ t (startD N ds) W (E_ post)) : t { nx := fun _ H' => Q .non H', rt := Q } (L2.start N vs) H := by
  obtain ⟨ds, W, C, H1, O, post, e, di, oc, ow, k, hs, q⟩ := h
  subst e
  exact b ds W post hs C H1 O _ ⟨di, oc, k.lo, ow⟩ _ ⟨fun G W' H' O' σ' r n l => q .non W' H' O' .non r n rfl, fun d W' H' O' v r n kd => q d W' H' O' v r n kd, fun _ _ _ _ _ z => z.elim, fun _ _ _ _ _ z => z.elim⟩
theorem okD {x qual : Str} {st : Stmt} {f : Addr} {fd : FuncData} {N ps : List Str} {k : Nat} (Fn : Fun K x qual st f fd) (Sc : FnScope N ps (defScope st)) (len : ∀ ds W post, S ds W post → ds.length = ps.length)
    (body : ∀ (cdv : Value) (A : Around) (outer : List Env) (s : Shared) (H : Hp) (E : XK), Room k (A.deeper (envOfC qual (defScope st) s.heap.objs.size f cdv)) →
      ∃ t, PSs (cxOf CX0 P w K mg base N qual (defScope st) f cdv A outer s H E).nox (defBody st) t ∧ ∀ ds W post, S ds W post → Sw F ⟨K, cl⟩ t (startD N ds) W (E_ post)) : FnOk P w K mg base CX0 (k + 1) f fd ps (spN F ⟨K, cl⟩ S) :=
  Fn.ok Sc (spN_len len) fun cdv A outer s H vs Q E hr h => let ⟨t, ht, b⟩ := body cdv A outer s H E hr; ⟨t, ht, body_run h b⟩
theorem okG {x qual : Str} {st : Stmt} {f : Addr} {fd : FuncData} {N ps : List Str} {k : Nat} (Fn : Fun K x qual st f fd) (Sc : FnScope N ps (defScope st)) (len : ∀ ds W post, S ds W post → ds.length = ps.length)
    (hb : ∀ (kV doc pm : Value) (an : Option Addr) (cdv ct : Value) (us : List Value), us.length = ps.length → bindArgs (PySem.W.fnOf x qual (defArgs st) (defBody st) (defScope st) .none kV doc pm an cdv ct) ⟨us, []⟩ = pure (ps.zip us))
    (body : ∀ (cdv : Value) (A : Around) (outer : List Env) (s : Shared) (H : Hp), (A.deeper (envOfC qual (defScope st) s.heap.objs.size f cdv)).guards = some [] → Room k (A.deeper (envOfC qual (defScope st) s.heap.objs.size f cdv)) →
      ∃ t, PSs (cxOf CX0 P w K mg base N qual (defScope st) f cdv A outer s H E0).nox (defBody st) t ∧ ∀ ds W post, S ds W post → Sw F ⟨K, cl⟩ t (startD N ds) W (E_ post)) : FnG P w K mg base (k + 1) f (spN F ⟨K, cl⟩ S) :=
  Fun.okG Fn Sc (spN_len len) hb fun cdv A outer s H vs Q hg hr h => let ⟨t, ht, b⟩ := body cdv A outer s H hg hr; ⟨t, ht, body_run h b⟩
/-- a def with a star behind n names -/
def starS (n : Nat) (S : FS) : FS := fun ds W post => n ≤ ds.length ∧ ds.length ≤ 1000 ∧ S (ds.take n ++ [.tup (ds.drop n)]) W post
theorem okS {x qual : Str} {st : Stmt} {f : Addr} {fd : FuncData} {N ps : List Str} {k : Nat} {pv : Str} (Fn : Fun K x qual st f fd) (Sc : FnScope N (ps ++ [pv]) (defScope st))
    (hb : ∀ (kV doc pm : Value) (an : Option Addr) (cdv ct : Value) (us rest : List Value), us.length = ps.length → bindArgs (PySem.W.fnOf x qual (defArgs st) (defBody st) (defScope st) .none kV doc pm an cdv ct) ⟨us ++ rest, []⟩ = (newTuple rest >>= fun t => pure (ps.zip us ++ [(pv, t)])))
    (body : ∀ (cdv : Value) (A : Around) (outer : List Env) (s : Shared) (H : Hp) (E : XK), Room k (A.deeper (envOfC qual (defScope st) s.heap.objs.size f cdv)) →
      ∃ t, PSs (cxOf CX0 P w K mg base N qual (defScope st) f cdv A outer s H E) (defBody st) t ∧ ∀ ds W post, S ds W post → Sw F ⟨K, cl⟩ t (startD N ds) W (E_ post)) : FnR P w K mg base CX0 (k + 1) f (spN F ⟨K, cl⟩ (starS ps.length S)) := by
  obtain ⟨oc, od, kV, doc, pm, an, cdv, ct, osl, rfl, lk, hcd⟩ := Fn.ex
  have h := StX.fn_star (CX := CX0) (P := P) (w := w) (mg := mg) (base := base) (k := k) (N := N) (ps := ps) (sp := spN F ⟨K, cl⟩ S) lk hcd Sc StX.cxUp_none (hb kV doc pm an cdv ct) (fun A outer s H vs Q E hr h => let ⟨t, ht, b⟩ := body cdv A outer s H E hr; ⟨t, ht, body_run h b⟩)
  refine fun A outer s H us vs Q E hr e0 r hsp => h A outer s H us vs Q E hr e0 r ?_
  obtain ⟨ds, W, C, H1, O, post, e, di, oc, ow, kl, ⟨h1, h2, h3⟩, q⟩ := hsp
  have hl := kl.len
  refine ⟨vs.take ps.length, vs.drop ps.length, (List.take_append_drop _ _).symm, by rw [List.length_take, hl]; omega, ?_, fun p hp => ?_⟩
  · have := sizeLine_eq
    rw [List.length_drop, hl]
    omega
  · subst e
    obtain ⟨n2, e2, s2⟩ := (Nx.refl (F := F) (T := ⟨K, cl⟩) di oc ow).newF (o := .tup (vs.drop ps.length)) hp
    rw [e2]
    exact ⟨_, W, C, _, O, post, rfl, n2.dis, n2.oc, n2.own, ((kl.take ps.length).mono s2).app (.one (d := .tup (ds.drop ps.length)) ⟨p, _, rfl, SqT.of upd_same, (kl.drop ps.length).mono s2⟩), h3, fun d W' H' O' v r n k => q d W' H' O' v r (n2.trans n) k⟩
end
end N
set_option Elab.async false
set_option linter.all false
set_option maxRecDepth 100000
namespace N
open PySem PySem.Spec PyProof.Rows L2
open C8 (Cal Met Mak pe_c pe_mt pe_mt0 pe_mk)
/-- the built-in names that a text uses are not hidden -/
structure Blt (mg : Str → Option Value) : Prop where
  len : mg "len" = none
  int : mg "int" = none
  str : mg "str" = none
  range : mg "range" = none
  list : mg "list" = none
  tuple : mg "tuple" = none
  dict : mg "dict" = none
  set : mg "set" = none
  sorted : mg "sorted" = none
  isinstance : mg "isinstance" = none
  repr : mg "repr" = none
  max : mg "max" = none
  min : mg "min" = none
  sum : mg "sum" = none
  all : mg "all" = none
  any : mg "any" = none
  zip : mg "zip" = none
  enumerate : mg "enumerate" = none
  bool : mg "bool" = none
  reversed : mg "reversed" = none
  type : mg "type" = none
theorem bt_int : bootBuiltins "int" = some (.type "int") := by decide +kernel
theorem bt_str : bootBuiltins "str" = some (.type "str") := by decide +kernel
theorem bt_list : bootBuiltins "list" = some (.type "list") := by decide +kernel
theorem bt_tuple : bootBuiltins "tuple" = some (.type "tuple") := by decide +kernel
theorem bt_set : bootBuiltins "set" = some (.type "set") := by decide +kernel
theorem bt_dict : bootBuiltins "dict" = some (.type "dict") := by decide +kernel
theorem bt_len : bootBuiltins "len" = some (.builtin "len") := by decide +kernel
theorem bt_sorted : bootBuiltins "sorted" = some (.builtin "sorted") := by decide +kernel
theorem bt_isinstance : bootBuiltins "isinstance" = some (.builtin "isinstance") := by decide +kernel
theorem bt_max : bootBuiltins "max" = some (.builtin "max") := by decide +kernel
theorem bt_all : bootBuiltins "all" = some (.builtin "all") := by decide +kernel
theorem bt_any : bootBuiltins "any" = some (.builtin "any") := by decide +kernel
section
variable {P : Program} {w : World} {K : PySem.W.Frag} {mg : Str → Option Value} {base : Heap} {F : FmKit} {cl : Nat → Addr} {S : FS}
/-- a def of the module, by its promise -/
theorem calD {x : Str} {st : Stmt} {f : Addr} {fd : FuncData} {N ps : List Str} {k : Nat} (hm : mg x = some (.ref f)) (Fn : Fun K x x st f fd) (Sc : FnScope N ps (defScope st)) (len : ∀ ds W post, S ds W post → ds.length = ps.length)
    (hb : ∀ (kV doc pm : Value) (an : Option Addr) (cdv ct : Value) (us : List Value), us.length = ps.length → bindArgs (PySem.W.fnOf x x (defArgs st) (defBody st) (defScope st) .none kV doc pm an cdv ct) ⟨us, []⟩ = pure (ps.zip us))
    (body : ∀ (cdv : Value) (A : Around) (outer : List Env) (s : Shared) (H : Hp) (E : XK), Room k (A.deeper (envOfC x (defScope st) s.heap.objs.size f cdv)) →
      ∃ t, PSs (cxOf CX0 P w K mg base N x (defScope st) f cdv A outer s H E).nox (defBody st) t ∧ ∀ ds W post, S ds W post → Sw F ⟨K, cl⟩ t (startD N ds) W (E_ post)) : Cal P w K mg base (k + 1) x (spN F ⟨K, cl⟩ S) [] :=
  ⟨f, fd, ps, [], okD Fn Sc len body, hm, Fn.kp, Fn.binds hb, .nil⟩
/-- .. that knows that no guard runs -/
structure CalG (P : Program) (w : World) (K : PySem.W.Frag) (mg : Str → Option Value) (base : Heap) (k : Nat) (x : Str) (sp : Sp) : Prop where
  ex : ∃ f : Addr, FnG P w K mg base k f sp ∧ mg x = some (.ref f) ∧ PySem.W.keepIn K (.ref f) = true
theorem calG {x : Str} {st : Stmt} {f : Addr} {fd : FuncData} {N ps : List Str} {k : Nat} (hm : mg x = some (.ref f)) (Fn : Fun K x x st f fd) (Sc : FnScope N ps (defScope st)) (len : ∀ ds W post, S ds W post → ds.length = ps.length)
    (hb : ∀ (kV doc pm : Value) (an : Option Addr) (cdv ct : Value) (us : List Value), us.length = ps.length → bindArgs (PySem.W.fnOf x x (defArgs st) (defBody st) (defScope st) .none kV doc pm an cdv ct) ⟨us, []⟩ = pure (ps.zip us))
    (body : ∀ (cdv : Value) (A : Around) (outer : List Env) (s : Shared) (H : Hp), (A.deeper (envOfC x (defScope st) s.heap.objs.size f cdv)).guards = some [] → Room k (A.deeper (envOfC x (defScope st) s.heap.objs.size f cdv)) →
      ∃ t, PSs (cxOf CX0 P w K mg base N x (defScope st) f cdv A outer s H E0).nox (defBody st) t ∧ ∀ ds W post, S ds W post → Sw F ⟨K, cl⟩ t (startD N ds) W (E_ post)) : CalG P w K mg base (k + 1) x (spN F ⟨K, cl⟩ S) :=
  ⟨f, okG Fn Sc len hb body, hm, Fn.kp⟩
/-- an own method by its promise: operators, str, len -/
structure Opn (P : Program) (w : World) (K : PySem.W.Frag) (mg : Str → Option Value) (base : Heap) (k : Nat) (C : Addr) (m : Str) (sp : Sp) : Prop where
  ex : ∃ (f : Addr) (fd : FuncData) (ps : List Str), Own2 K C m f ∧ FnOk P w K mg base CX0 k f fd ps sp ∧ Binds K fd ps []
theorem opnD {m qual : Str} {C : Addr} {st : Stmt} {f : Addr} {fd : FuncData} {N ps : List Str} {k : Nat} (o : Own2 K C m f) (Fn : Fun K m qual st f fd) (Sc : FnScope N ps (defScope st)) (len : ∀ ds W post, S ds W post → ds.length = ps.length)
    (hb : ∀ (kV doc pm : Value) (an : Option Addr) (cdv ct : Value) (us : List Value), us.length = ps.length → bindArgs (PySem.W.fnOf m qual (defArgs st) (defBody st) (defScope st) .none kV doc pm an cdv ct) ⟨us, []⟩ = pure (ps.zip us))
    (body : ∀ (cdv : Value) (A : Around) (outer : List Env) (s : Shared) (H : Hp) (E : XK), Room k (A.deeper (envOfC qual (defScope st) s.heap.objs.size f cdv)) →
      ∃ t, PSs (cxOf CX0 P w K mg base N qual (defScope st) f cdv A outer s H E).nox (defBody st) t ∧ ∀ ds W post, S ds W post → Sw F ⟨K, cl⟩ t (startD N ds) W (E_ post)) : Opn P w K mg base (k + 1) C m (spN F ⟨K, cl⟩ S) :=
  ⟨f, fd, ps, o, okD Fn Sc len body, Fn.binds hb⟩
/-- a class whose __init__ has a star -/
structure MakR (P : Program) (w : World) (K : PySem.W.Frag) (mg : Str → Option Value) (base : Heap) (k : Nat) (x : Str) (C : Addr) (sp : Sp) : Prop where
  ex : ∃ f : Addr, Mk K C f ∧ FnR P w K mg base CX0 k f sp ∧ mg x = some (.ref C)
end
section
variable {X : Cx} {k j : Nat} {x : Str} {C : Addr} {sp : Sp} {e : Expr} {es : List Expr} {t : TA} {p pos : Pos} {F : FmKit} {T : Kx} {S : FS}
theorem pe_mkR (c : MakR X.prog X.w X.K X.mg X.base k x C sp) (hr : Room j X.A) (hk : k + 1 ≤ j) (hg : Gl X x) (ha : PA X (e :: es) t) (hdb : (x == ("__debug__" : Str)) = false := by decide)
    (he : starEach (e :: es) X.env = (false, eval e X.env) :: starEach es X.env := by rfl) (hpl : (backTo pos (starEach es X.env)).any (·.1) = false := by rfl) : PE X (.Call (.Name x p) (e :: es) [] pos) (StX.tMakeR C sp E0 t) := by
  obtain ⟨f, m, h, hm⟩ := c.ex
  exact StX.pe_makeR m h (hr.mono hk) hg hm pass0 ha hdb he hpl
def rStrO (C : Addr) (sp : Sp) : List V → Hp → VK → Prop := fun xs H Q => ∃ a dx fs, xs = [.ref a] ∧ H a = some (.ins C dx fs) ∧ sp [.ref a] H (fun v H' => (∃ z, v = .str z) ∧ Q v H') E0
theorem call_str_opn (o : Opn X.prog X.w X.K X.mg X.base k C "__str__" sp) (hr : Room j X.A) (hk : k + 2 ≤ j) : CallR X (.type "str") (rStrO C sp) := by
  obtain ⟨f, fd, ps, o2, h, b⟩ := o.ex
  exact call_own_str h (hr.mono hk) o2 b pass0
def rLenO (C : Addr) (sp : Sp) : List V → Hp → VK → Prop := fun xs H Q => ∃ a dx fs, xs = [.ref a] ∧ H a = some (.ins C dx fs) ∧ sp [.ref a] H (fun v H' => (∃ n : Int, v = .int n ∧ 0 ≤ n ∧ n < 2 ^ 63) ∧ Q v H') E0
theorem call_len_opn (o : Opn X.prog X.w X.K X.mg X.base k C "__len__" sp) (hr : Room j X.A) (hk : k + 1 ≤ j) : CallR X (.builtin "len") (rLenO C sp) := by
  obtain ⟨f, fd, ps, o2, h, b⟩ := o.ex
  exact call_own_len h (hr.mono hk) o2 b pass0
end
section
variable {F : FmKit} {T : Kx} {C H H' O O' : Hp} {G : Gm} {W W' : Om} {R : D → Om → Prop} {S : FS} {ta : TE} {c : Nat}
theorem ev_un {r : V → Hp → VK → Prop} (h : Ev F T ta G W fun d W1 => Ca F T (fun xs H Q => ∃ x, xs = [x] ∧ r x H Q) [d] W1 R) : Ev F T (tUn r ta) G W R := fun C H O σ w Q q =>
  h C H O σ w _ fun d W1 H1 O1 x h1 n1 k1 => by
    obtain ⟨y, e, hr⟩ := h1 C H1 O1 n1.dis n1.oc n1.own [x] (.one k1) Q fun d W' H' O' v rr n k => q d W' H' O' v rr (n1.trans n) k
    cases e
    exact hr
theorem ca_own1 {d : D} {ns : List Str} {l : List D} (i1 : Inst F W d c ns l) (h : Hand S [d] W R) : Ca F T (fun xs H Q => ∃ x, xs = [x] ∧ rOwn1 (T.cl c) (spN F T S) E0 x H Q) [d] W R := ca_one fun C H O di oc ow x k Q q => by
  obtain ⟨a, dx, fs, ex, ha, _⟩ := i1.at di ow k
  exact ⟨x, rfl, a, dx, fs, ex, ha, h.run di oc ow (.one k) q⟩
theorem ca_strO {d : D} {ns : List Str} {l : List D} (i1 : Inst F W d c ns l) (h : Hand S [d] W fun d' W' => (∃ z, d' = .str z) ∧ R d' W') : Ca F T (rStrO (T.cl c) (spN F T S)) [d] W R := ca_one fun C H O di oc ow x k Q q => by
  obtain ⟨a, dx, fs, ex, ha, _⟩ := i1.at di ow k
  subst ex
  refine ⟨a, dx, fs, rfl, ha, h.run di oc ow (.one k) fun d' W' H' O' v ⟨⟨z, ez⟩, r⟩ n kd => ⟨⟨z, ?_⟩, q d' W' H' O' v r n kd⟩⟩
  subst ez
  exact kd
theorem ca_lenO {d : D} {ns : List Str} {l : List D} (i1 : Inst F W d c ns l) (h : Hand S [d] W fun d' W' => (∃ n : Int, d' = .int n ∧ 0 ≤ n ∧ n < 2 ^ 63) ∧ R d' W') : Ca F T (rLenO (T.cl c) (spN F T S)) [d] W R := ca_one fun C H O di oc ow x k Q q => by
  obtain ⟨a, dx, fs, ex, ha, _⟩ := i1.at di ow k
  subst ex
  refine ⟨a, dx, fs, rfl, ha, h.run di oc ow (.one k) fun d' W' H' O' v ⟨⟨z, ez, h0, h1⟩, r⟩ n kd => ⟨⟨z, ?_, h0, h1⟩, q d' W' H' O' v r n kd⟩⟩
  subst ez
  exact kd
end
end N
set_option Elab.async false
set_option linter.all false
set_option maxRecDepth 100000
namespace N
open PySem PySem.Spec PyProof.Rows L2
section
variable {F : FmKit} {T : Kx} {C H H' O O' : Hp} {G : Gm} {W W' : Om} {R : D → Om → Prop} {S : FS} {ta tb te : TE} {tr : TA} {c : Nat} {t u : TT} {Z : Bool → Om → Prop} {ts tz : TS} {E : En}
theorem bo_I0 {g : Int → Int → V} {i j : Int} (h : R (.vl (g i j)) W) : Bo F T (rI0 g) (.int i) (.int j) W R := op_sc fun H Q k => ⟨i, j, rfl, rfl, k _ h⟩
theorem bo_I {Cc : Int → Int → Prop} {g : Int → Int → V} {i j : Int} (hc : Cc i j) (h : R (.vl (g i j)) W) : Bo F T (rI Cc g) (.int i) (.int j) W R := op_sc fun H Q k => ⟨i, j, rfl, rfl, hc, k _ h⟩
theorem bo_eq {x y : V} (hs : scal x y = true) (h : R (.bl (decide (x = y))) W) : Bo F T rEq (.vl x) (.vl y) W R := op_sc fun H Q k => ⟨hs, k _ h⟩
theorem bo_ne {x y : V} (hs : scal x y = true) (h : R (.bl (!decide (x = y))) W) : Bo F T rNe (.vl x) (.vl y) W R := op_sc fun H Q k => ⟨hs, k _ h⟩
theorem dec_int (i j : Int) : decide (V.int i = V.int j) = decide (i = j) := by
  by_cases h : i = j
  · subst h
    simp
  · rw [decide_eq_false h, decide_eq_false (fun e => h (V.int.inj e))]
theorem dec_str (i j : Str) : decide (V.str i = V.str j) = decide (i = j) := by
  by_cases h : i = j
  · subst h
    simp
  · rw [decide_eq_false h, decide_eq_false (fun e => h (V.str.inj e))]
theorem dec_bl (i j : Bool) : decide (V.bl i = V.bl j) = decide (i = j) := by cases i <;> cases j <;> decide
theorem bo_eqI {i j : Int} (h : R (.bl (decide (i = j))) W) : Bo F T rEq (.int i) (.int j) W R := bo_eq rfl (by rw [dec_int]; exact h)
theorem bo_neI {i j : Int} (h : R (.bl (!decide (i = j))) W) : Bo F T rNe (.int i) (.int j) W R := bo_ne rfl (by rw [dec_int]; exact h)
theorem bo_eqS {i j : Str} (h : R (.bl (decide (i = j))) W) : Bo F T rEq (.str i) (.str j) W R := bo_eq rfl (by rw [dec_str]; exact h)
theorem bo_neS {i j : Str} (h : R (.bl (!decide (i = j))) W) : Bo F T rNe (.str i) (.str j) W R := bo_ne rfl (by rw [dec_str]; exact h)
theorem bo_eqB {i j : Bool} (h : R (.bl (decide (i = j))) W) : Bo F T rEq (.bl i) (.bl j) W R := bo_eq rfl (by rw [dec_bl]; exact h)
theorem bo_neB {i j : Bool} (h : R (.bl (!decide (i = j))) W) : Bo F T rNe (.bl i) (.bl j) W R := bo_ne rfl (by rw [dec_bl]; exact h)
theorem ca_int {i : Int} (h : R (.int i) W) : Ca F T (fun xs H Q => (∃ i, xs = [.int i] ∧ Q (.int i) H) ∨ ∃ k, xs = [.bl k] ∧ Q (.int (if k then 1 else 0)) H) [.int i] W R := cl_sc (xs := [.int i]) fun H Q k => .inl ⟨i, rfl, k _ h⟩
theorem ca_intB {b : Bool} (h : R (.int (if b then 1 else 0)) W) : Ca F T (fun xs H Q => (∃ i, xs = [.int i] ∧ Q (.int i) H) ∨ ∃ k, xs = [.bl k] ∧ Q (.int (if k then 1 else 0)) H) [.bl b] W R := cl_sc (xs := [.bl b]) fun H Q k => .inr ⟨b, rfl, k _ h⟩
theorem ca_max2 {i j : Int} (h : R (.int (if j > i then j else i)) W) : Ca F T (fun xs H Q => ∃ i j, xs = [.int i, .int j] ∧ Q (.int (if j > i then j else i)) H) [.int i, .int j] W R := cl_sc (xs := [.int i, .int j]) fun H Q k => ⟨i, j, rfl, k _ h⟩
theorem ca_min2 {i j : Int} (h : R (.int (if j < i then j else i)) W) : Ca F T (fun xs H Q => ∃ i j, xs = [.int i, .int j] ∧ Q (.int (if j < i then j else i)) H) [.int i, .int j] W R := cl_sc (xs := [.int i, .int j]) fun H Q k => ⟨i, j, rfl, k _ h⟩
/-- a chain of comparisons -/
theorem ev_chain {r r' : R2} {tc : TE} (h : Ev F T ta G W fun d1 W1 => Ev F T tb G W1 fun d2 W2 => Bo F T r d1 d2 W2 fun z W3 => ∃ b, z = .bl b ∧ if b = true then Ev F T tc G W3 fun d3 W4 => Bo F T r' d2 d3 W4 R else R (.bl false) W3) : Ev F T (tChain r r' ta tb tc) G W R := fun C H O σ w Q q =>
  h C H O σ w _ fun d1 W1 H1 O1 x h1 n1 k1 => h1 C H1 O1 σ (w.step n1) _ fun d2 W2 H2 O2 y h2 n2 k2 =>
    h2 C H2 O2 n2.dis n2.oc n2.own x y (k1.mono n2.ext) k2 _ fun z W3 H3 O3 v ⟨b, ez, hb⟩ n3 k3 => by
      subst ez
      have k3 : v = .bl b := k3
      refine ⟨b, k3, ?_⟩
      cases b with
      | true => exact hb C H3 O3 σ (((w.step n1).step n2).step n3) _ fun d3 W4 H4 O4 zv h4 n4 k4 => h4 C H4 O4 n4.dis n4.oc n4.own y zv ((k2.mono n3.ext).mono n4.ext) k4 Q fun d W' H' O' v rr n k => q d W' H' O' v rr ((((n1.trans n2).trans n3).trans n4).trans n) k
      | false => exact q _ W3 H3 O3 _ hb ((n1.trans n2).trans n3) rfl
theorem et_chain {r r' : R2} {tc : TE} (h : Ev F T (tChain r r' ta tb tc) G W fun d W1 => ∃ b, d = .bl b ∧ Z b W1) : EvT F T (tTest (tChain r r' ta tb tc)) G W Z := et_test h
theorem if_so {c : Bool} {A B : Prop} (hc : c = true) (h : A) : if c = true then A else B := by rw [if_pos hc]; exact h
theorem if_not {c : Bool} {A B : Prop} (hc : c = false) (h : B) : if c = true then A else B := by rw [if_neg (by rw [hc]; exact Bool.false_ne_true)]; exact h
theorem if_dec {p A B : Prop} [Decidable p] (h1 : p → A) (h2 : ¬ p → B) : if decide p = true then A else B := by
  by_cases h : p
  · exact if_so (decide_eq_true h) (h1 h)
  · exact if_not (decide_eq_false h) (h2 h)
/-- slices of lists, in plain data -/
def cutD (xs : List D) (lo hi : Option Int) : List D := (xs.drop (HT.sIx xs.length 0 lo)).take (HT.sIx xs.length xs.length hi - HT.sIx xs.length 0 lo)
theorem DenL.cut {l : List D} {xs : List V} (k : DenL F T H l xs) (lo hi : Option Int) : DenL F T H (cutD l lo hi) (cutV xs lo hi) := by
  unfold cutD cutV
  rw [k.len]
  exact (k.drop _).take _
theorem eo_none {Y : Option Int → Om → Prop} (h : Y none W) : EvO F T tNoPart G W Y := fun C H O σ w Q q => q none W H O h w.nx
theorem eo_some {Y : Option Int → Om → Prop} (h : Ev F T te G W fun d W1 => ∃ i, d = .int i ∧ Y (some i) W1) : EvO F T (tPart te) G W Y := fun C H O σ w Q q =>
  h C H O σ w _ fun d W1 H1 O1 x ⟨i, e, y⟩ n k => by
    subst e
    exact ⟨i, k, q (some i) W1 H1 O1 y n⟩
theorem ev_sl {r : V → Option Int → Option Int → Hp → VK → Prop} {tl th : TO} (h : Ev F T te G W fun d W1 => EvO F T tl G W1 fun lo W2 => EvO F T th G W2 fun hi W3 => Ca F T (fun xs H Q => ∃ x, xs = [x] ∧ r x lo hi H Q) [d] W3 R) : Ev F T (tSl r te tl th) G W R := fun C H O σ w Q q =>
  h C H O σ w _ fun d W1 H1 O1 x h1 n1 k1 => h1 C H1 O1 σ (w.step n1) _ fun lo W2 H2 O2 h2 n2 => h2 C H2 O2 σ ((w.step n1).step n2) _ fun hi W3 H3 O3 h3 n3 => by
    obtain ⟨y, e, hr⟩ := h3 C H3 O3 n3.dis n3.oc n3.own [x] (.one ((k1.mono n2.ext).mono n3.ext)) Q fun d W' H' O' v rr n k => q d W' H' O' v rr (((n1.trans n2).trans n3).trans n) k
    cases e
    exact hr
theorem ca_slL {d : D} {l : List D} {lo hi : Option Int} (hv : Vl W d l) (r : ∀ p, p ∉ akeys W → R (.adr p) ((p, .lst (cutD l lo hi)) :: W)) : Ca F T (fun xs H Q => ∃ x, xs = [x] ∧ rSlL T.K x lo hi H Q) [d] W R := ca_one fun C H O di oc ow x k Q q => by
  obtain ⟨a, xs, e, hs, kl⟩ := hv.sq ow di k
  subst e
  refine ⟨_, rfl, a, xs, rfl, hs, fun p hp => ?_⟩
  obtain ⟨n2, e, np⟩ := (Nx.refl di oc ow).newO (od := .lst (cutD l lo hi)) (o := .lst (cutV xs lo hi)) hp ⟨_, rfl, kl.cut lo hi⟩
  rw [e]
  exact q (.adr p) _ _ _ _ (r p np) n2 rfl
theorem ev_revL (h : Ev F T te G W fun d W1 => ∃ l, Vl W1 d l ∧ ∀ p, p ∉ akeys W1 → R (.adr p) ((p, .lst l.reverse) :: W1)) : Ev F T (tRevL T.K te) G W R := fun C H O σ w Q q =>
  h C H O σ w _ fun d W1 H1 O1 x ⟨l, hv, r⟩ n k => by
    obtain ⟨a, xs, e, hs, kl⟩ := hv.sq n.own n.dis k
    subst e
    refine ⟨a, xs, rfl, hs, fun p hp => ?_⟩
    obtain ⟨n2, e, np⟩ := n.newO (od := .lst l.reverse) (o := .lst xs.reverse) hp ⟨_, rfl, kl.reverse⟩
    rw [e]
    exact q (.adr p) _ _ _ _ (r p np) n2 rfl
/-- membership in a flat sequence -/
theorem bo_in {neg : Bool} {x : V} {d : D} {xs : List V} (hv : Vs W d (xs.map .vl)) (hx : flatV x = true) (ha : xs.all flatV = true) (r : R (.bl (if neg then !inV x xs else inV x xs)) W) : Bo F T (rIn T.K neg) (.vl x) d W R := fun C H O di oc ow x' y hx' hy Q q => by
  have hx' : x' = x := hx'
  subst hx'
  obtain ⟨a, ys, e, hs, kl⟩ := hv.sq ow di hy
  have kl := DenL.vls_inv kl
  subst kl
  exact ⟨a, ys, e, hs, hx, ha, q _ W H O _ r (.refl di oc ow) rfl⟩
end
theorem canLay_ints : ∀ ns : List Int, PyData.canLayAll0 (ns.map .int) = true
  | [] => rfl
  | n :: ns => by
    rw [List.map_cons, PyData.canLayAll0, canLay_ints ns]
    rfl
theorem depth_ints : ∀ ns : List Int, PyData.depthAll (ns.map .int) = 0
  | [] => rfl
  | n :: ns => by
    rw [List.map_cons, PyData.depthAll, depth_ints ns]
    rfl
theorem shaped_ints (ns : List Int) : SeqAt.shaped (.list (ns.map .int)) = true := by
  unfold SeqAt.shaped
  rw [PyData.canLay0, canLay_ints, PyData.depth, depth_ints]
  decide
theorem eqv_nil {ds : List PyData} : (PyData.list ds).eqv (.list []) = ds.isEmpty := by
  cases ds with
  | nil => simp [PyData.eqv, PyData.eqvAll]
  | cons d ds => simp [PyData.eqv, PyData.eqvAll]
theorem vp_ints {W : Om} {d : D} {ns : List Int} (h : Vl W d (ns.map D.int)) : Vp W d (.list (ns.map .int)) := .inr ⟨_, h, pd_lst (pdL_map D.int .int (fun _ => rfl) ns)⟩
theorem vp_nil {W : Om} : Vp W (.lst []) (.list []) := .inl rfl
end N
set_option Elab.async false
set_option linter.all false
set_option maxRecDepth 100000
namespace N
open PySem PySem.Spec PyProof.Rows L2
theorem str_ext {x y : Str} (h : x.cps.toList = y.cps.toList) : x = y := by
  cases x
  cases y
  congr 1
  exact Array.toList_inj.mp h
theorem str_app (x y : Str) : (x ++ y).cps.toList = x.cps.toList ++ y.cps.toList := by
  show (x.cps ++ y.cps).toList = _
  rw [Array.toList_append]
theorem str_len (x : Str) : x.length = x.cps.toList.length := by
  show x.cps.size = _
  rw [Array.length_toList]
theorem str_app_len (x y : Str) : (x ++ y).length = x.length + y.length := by rw [str_len, str_app, List.length_append, ← str_len, ← str_len]
def ltS (x y : Str) : Bool := ltCps x.cps.toList y.cps.toList
theorem ltCps_irrefl : ∀ a : List Nat, ltCps a a = false
  | [] => rfl
  | a :: r => by simp [ltCps, ltCps_irrefl r]
theorem ltCps_trans : ∀ {a b c : List Nat}, ltCps a b = true → ltCps b c = true → ltCps a c = true
  | [], [], c, h, _ => by simp [ltCps] at h
  | [], _ :: _, [], _, h => by simp [ltCps] at h
  | [], _ :: _, _ :: _, _, _ => rfl
  | _ :: _, [], _, h, _ => by simp [ltCps] at h
  | _ :: _, _ :: _, [], _, h => by simp [ltCps] at h
  | x :: a, y :: b, z :: c, h1, h2 => by
    simp only [ltCps, Bool.or_eq_true, decide_eq_true_eq, Bool.and_eq_true, beq_iff_eq] at h1 h2 ⊢
    rcases h1 with h1 | ⟨h1, h3⟩ <;> rcases h2 with h2 | ⟨h2, h4⟩
    · exact .inl (by omega)
    · exact .inl (by omega)
    · exact .inl (by omega)
    · exact .inr ⟨by omega, ltCps_trans h3 h4⟩
theorem ltCps_total : ∀ {a b : List Nat}, ltCps a b = false → ltCps b a = false → a = b
  | [], [], _, _ => rfl
  | [], _ :: _, h, _ => by simp [ltCps] at h
  | _ :: _, [], _, h => by simp [ltCps] at h
  | x :: a, y :: b, h1, h2 => by
    simp only [ltCps, Bool.or_eq_false_iff, decide_eq_false_iff_not, Bool.and_eq_false_iff, beq_eq_false_iff_ne] at h1 h2
    have e : x = y := by omega
    subst e
    rw [ltCps_total (h1.2.resolve_left (by simp)) (h2.2.resolve_left (by simp))]
theorem ltS_irrefl (x : Str) : ltS x x = false := ltCps_irrefl _
theorem ltS_trans {x y z : Str} (h : ltS x y = true) (k : ltS y z = true) : ltS x z = true := ltCps_trans h k
theorem ltS_total {x y : Str} (h : ltS x y = false) (k : ltS y x = false) : x = y := str_ext (ltCps_total h k)
theorem ltS_of {x y : Str} (h : ltS y x = false) (ne : x ≠ y) : ltS x y = true := by
  cases e : ltS x y with
  | true => rfl
  | false => exact absurd (ltS_total e h) ne
theorem rising_all : ∀ {l : List Str} {p : Str}, risingS p l = true → (p :: l).Nodup → (p :: l).Pairwise (fun a b => ltS a b = true)
  | [], p, _, _ => by simp
  | x :: l, p, h, nd => by
    unfold risingS at h
    rw [Bool.and_eq_true] at h
    have h1 : ltS x p = false := by simpa [ltS] using h.1
    rw [List.nodup_cons] at nd
    have ih := rising_all h.2 nd.2
    have px : ltS p x = true := ltS_of h1 (fun e => nd.1 (by rw [e]; exact List.mem_cons_self))
    rw [List.pairwise_cons]
    refine ⟨fun y hy => ?_, ih⟩
    rcases List.mem_cons.mp hy with e | e
    · subst e
      exact px
    · exact ltS_trans px ((List.pairwise_cons.mp ih).1 y e)
theorem sorted_all : ∀ {l : List Str}, sortedS l = true → l.Nodup → l.Pairwise (fun a b => ltS a b = true)
  | [], _, _ => List.Pairwise.nil
  | _ :: _, h, nd => rising_all h nd
/-- two strictly ascending lists with the same members are one -/
theorem asc_ext {α : Type} {lt : α → α → Prop} (ir : ∀ a, ¬ lt a a) (tr : ∀ a b c, lt a b → lt b c → lt a c) : ∀ {l m : List α}, l.Pairwise lt → m.Pairwise lt → (∀ x, x ∈ l ↔ x ∈ m) → l = m
  | [], [], _, _, _ => rfl
  | [], b :: m, _, _, h => absurd ((h b).mpr List.mem_cons_self) (by simp)
  | a :: l, [], _, _, h => absurd ((h a).mp List.mem_cons_self) (by simp)
  | a :: l, b :: m, hl, hm, h => by
    rw [List.pairwise_cons] at hl hm
    have e : a = b := by
      rcases List.mem_cons.mp ((h a).mp List.mem_cons_self) with e | e
      · exact e
      · rcases List.mem_cons.mp ((h b).mpr List.mem_cons_self) with e2 | e2
        · exact e2.symm
        · exact absurd (tr _ _ _ (hl.1 _ e2) (hm.1 _ e)) (ir a)
    subst e
    congr 1
    refine asc_ext ir tr hl.2 hm.2 fun x => ⟨fun hx => ?_, fun hx => ?_⟩
    · rcases List.mem_cons.mp ((h x).mp (List.mem_cons_of_mem _ hx)) with e | e
      · subst e
        exact absurd (hl.1 _ hx) (ir x)
      · exact e
    · rcases List.mem_cons.mp ((h x).mpr (List.mem_cons_of_mem _ hx)) with e | e
      · subst e
        exact absurd (hm.1 _ hx) (ir x)
      · exact e
theorem perm_map_inv {α β : Type} {f : α → β} : ∀ {l : List α} {ys : List β}, ys.Perm (l.map f) → ∃ l' : List α, l'.Perm l ∧ ys = l'.map f
  | [], ys, h => ⟨[], List.Perm.refl _, by simpa using h⟩
  | a :: l, ys, h => by
    have hm : f a ∈ ys := h.mem_iff.mpr (by simp)
    obtain ⟨s, t, e⟩ := List.append_of_mem hm
    subst e
    have h2 : (s ++ t).Perm (l.map f) := by
      have h3 : (f a :: (s ++ t)).Perm (f a :: l.map f) := List.perm_middle.symm.trans (by simpa using h)
      exact (List.perm_cons _).mp h3
    obtain ⟨l', p, e⟩ := perm_map_inv h2
    obtain ⟨l1, l2, e1, e2, e3⟩ := List.map_eq_append_iff.mp e.symm
    subst e1 e2 e3
    exact ⟨l1 ++ a :: l2, List.perm_middle.trans ((List.perm_cons _).mpr p), by simp⟩
def insN (n : Nat) : List Nat → List Nat
  | [] => [n]
  | m :: r => if n = m then m :: r else if n < m then n :: m :: r else m :: insN n r
def unite (x y : Str) : Str := if x = y then x else ⟨((x.cps.toList ++ y.cps.toList).foldr insN []).toArray⟩
namespace Fm
def kind : Fm → Str
  | .at _ => "atom"
  | .no => "no"
  | .imp _ _ => "if"
  | .all _ => "all"
def many : Fm → Nat
  | .at _ => 1
  | .no => 1
  | .imp a b => 1 + a.many + b.many
  | .all a => 1 + a.many
def deep : Fm → Nat
  | .at _ => 0
  | .no => 0
  | .imp a b => max a.deep b.deep
  | .all a => 1 + a.deep
def atoms : Fm → Str
  | .at c => ⟨#[c]⟩
  | .no => ""
  | .imp a b => unite a.atoms b.atoms
  | .all a => a.atoms
/-- the atoms outside of all all-parts -/
def outer : Fm → Str
  | .at c => ⟨#[c]⟩
  | .no => ""
  | .imp a b => unite a.outer b.outer
  | .all _ => ""
def spell : Fm → Str
  | .at c => ⟨#[c]⟩
  | .no => "no"
  | .imp a b => "(" ++ a.spell ++ " > " ++ b.spell ++ ")"
  | .all a => "all " ++ a.spell
def ins (g : Fm) : List Fm → List Fm
  | [] => [g]
  | h :: r => if g = h then h :: r else if ltS g.spell h.spell then g :: h :: r else h :: ins g r
def merge (xs ys : List Fm) : List Fm := if xs = [] then ys else if ys = [] then xs else (xs ++ ys).foldr ins []
def alls : Fm → List Fm
  | .at _ => []
  | .no => []
  | .imp a b => merge a.alls b.alls
  | .all a => merge a.alls [.all a]
/-- the length of the text -/
def sz : Fm → Nat
  | .at _ => 1
  | .no => 2
  | .imp a b => 5 + a.sz + b.sz
  | .all a => 4 + a.sz
/-- no atom in it -/
def bare : Fm → Prop
  | .at _ => False
  | .no => True
  | .imp a b => a.bare ∧ b.bare
  | .all a => a.bare
theorem spell_len : ∀ f : Fm, f.spell.length = f.sz
  | .at _ => rfl
  | .no => rfl
  | .imp a b => by
    have h1 : ("(" : Str).length = 1 := rfl
    have h2 : (" > " : Str).length = 3 := rfl
    have h3 : (")" : Str).length = 1 := rfl
    simp only [spell, sz, str_app_len, spell_len a, spell_len b, h1, h2, h3]
    omega
  | .all a => by
    have h1 : ("all " : Str).length = 4 := rfl
    simp only [spell, sz, str_app_len, spell_len a, h1]
def ltF (f g : Fm) : Prop := ltS f.spell g.spell = true
def cs (f : Fm) : List Nat := f.spell.cps.toList
theorem cs_imp (a b : Fm) : cs (.imp a b) = 40 :: (a.cs ++ (32 :: 62 :: 32 :: (b.cs ++ [41]))) := by
  have h1 : ("(" : Str).cps.toList = [40] := rfl
  have h2 : (" > " : Str).cps.toList = [32, 62, 32] := rfl
  have h3 : (")" : Str).cps.toList = [41] := rfl
  simp [cs, spell, str_app, h1, h2, h3]
theorem cs_all (a : Fm) : cs (.all a) = 97 :: 108 :: 108 :: 32 :: a.cs := by
  have h1 : ("all " : Str).cps.toList = [97, 108, 108, 32] := rfl
  simp [cs, spell, str_app, h1]
theorem cs_no : cs .no = [110, 111] := rfl
theorem cs_at (c : Nat) : cs (.at c) = [c] := rfl
/-- behind a formula stands nothing, a blank or a bracket -/
def stop (r : List Nat) : Prop := ∀ c t, r = c :: t → c = 32 ∨ c = 41
/-- letters -/
def okL : Fm → Prop
  | .at c => (65 ≤ c ∧ c ≤ 90) ∨ (97 ≤ c ∧ c ≤ 122)
  | .no => True
  | .imp a b => a.okL ∧ b.okL
  | .all a => a.okL
theorem bare_ok : ∀ {f : Fm}, f.bare → f.okL
  | .at _, h => h.elim
  | .no, _ => trivial
  | .imp _ _, h => ⟨bare_ok h.1, bare_ok h.2⟩
  | .all a, h => bare_ok (f := a) h
theorem cs_inj : ∀ (f g : Fm), f.okL → g.okL → ∀ r s : List Nat, stop r → stop s → f.cs ++ r = g.cs ++ s → f = g ∧ r = s
  | .at c, .at d, _, _, r, s, _, _, h => by
    rw [cs_at, cs_at] at h
    injection h with h1 h2
    exact ⟨by rw [h1], h2⟩
  | .at c, .no, _, _, r, s, hr, _, h => by
    rw [cs_at, cs_no] at h
    injection h with h1 h2
    rcases hr 111 s h2 with e | e <;> cases e
  | .at c, .imp a b, hc, _, r, s, hr, _, h => by
    rw [cs_at, cs_imp] at h
    injection h with h1 h2
    simp only [okL] at hc
    omega
  | .at c, .all a, _, _, r, s, hr, _, h => by
    rw [cs_at, cs_all] at h
    injection h with h1 h2
    rcases hr _ _ h2 with e | e <;> cases e
  | .no, .at d, _, _, r, s, _, hs, h => by
    rw [cs_at, cs_no] at h
    injection h with h1 h2
    rcases hs 111 r h2.symm with e | e <;> cases e
  | .no, .no, _, _, r, s, _, _, h => by
    rw [cs_no] at h
    simp at h
    exact ⟨rfl, h⟩
  | .no, .imp a b, _, _, r, s, _, _, h => by
    rw [cs_no, cs_imp] at h
    injection h with h1 h2
    cases h1
  | .no, .all a, _, _, r, s, _, _, h => by
    rw [cs_no, cs_all] at h
    injection h with h1 h2
    cases h1
  | .imp a b, .at d, _, hd, r, s, _, hs, h => by
    rw [cs_at, cs_imp] at h
    injection h with h1 h2
    simp only [okL] at hd
    omega
  | .imp a b, .no, _, _, r, s, _, _, h => by
    rw [cs_no, cs_imp] at h
    injection h with h1 h2
    cases h1
  | .imp a b, .all c, _, _, r, s, _, _, h => by
    rw [cs_all, cs_imp] at h
    injection h with h1 h2
    cases h1
  | .all a, .at d, _, _, r, s, _, hs, h => by
    rw [cs_at, cs_all] at h
    injection h with h1 h2
    rcases hs _ _ h2.symm with e | e <;> cases e
  | .all a, .no, _, _, r, s, _, _, h => by
    rw [cs_no, cs_all] at h
    injection h with h1 h2
    cases h1
  | .all a, .imp b c, _, _, r, s, _, _, h => by
    rw [cs_all, cs_imp] at h
    injection h with h1 h2
    cases h1
  | .all a, .all b, ha, hb, r, s, hr, hs, h => by
    rw [cs_all, cs_all] at h
    simp only [List.cons_append, List.cons.injEq, true_and] at h
    obtain ⟨e, e2⟩ := cs_inj a b ha hb r s hr hs h
    exact ⟨by rw [e], e2⟩
  | .imp a b, .imp c d, ha, hb, r, s, hr, hs, h => by
    rw [cs_imp, cs_imp] at h
    simp only [List.cons_append, List.append_assoc, List.cons.injEq, true_and] at h
    obtain ⟨e, e2⟩ := cs_inj a c ha.1 hb.1 _ _ (by intro c t e; injection e with e; exact .inl e.symm) (by intro c t e; injection e with e; exact .inl e.symm) h
    subst e
    simp only [List.cons.injEq, true_and] at e2
    obtain ⟨e3, e4⟩ := cs_inj b d ha.2 hb.2 _ _ (by intro c t e; injection e with e; exact .inr e.symm) (by intro c t e; injection e with e; exact .inr e.symm) e2
    subst e3
    simp at e4
    exact ⟨rfl, e4⟩
theorem spell_inj {f g : Fm} (hf : f.okL) (hg : g.okL) (h : f.spell = g.spell) : f = g := by
  refine (cs_inj f g hf hg [] [] (by intro c t e; cases e) (by intro c t e; cases e) ?_).1
  simp [cs, h]
def asc (l : List Fm) : Prop := l.Pairwise ltF
theorem ltF_irrefl (f : Fm) : ¬ ltF f f := by
  unfold ltF
  rw [ltS_irrefl]
  exact Bool.false_ne_true
theorem ltF_trans (f g h : Fm) : ltF f g → ltF g h → ltF f h := fun a b => ltS_trans a b
theorem asc_eq {l m : List Fm} (h : asc l) (k : asc m) (e : ∀ x, x ∈ l ↔ x ∈ m) : l = m := asc_ext ltF_irrefl ltF_trans h k e
theorem mem_ins {g x : Fm} : ∀ {l : List Fm}, x ∈ ins g l ↔ x = g ∨ x ∈ l
  | [] => by simp [ins]
  | h :: r => by
    unfold ins
    split
    · rename_i e
      subst e
      simp
    · split
      · simp
      · rw [List.mem_cons, mem_ins, List.mem_cons]
        constructor
        · rintro (h | h | h)
          · exact .inr (.inl h)
          · exact .inl h
          · exact .inr (.inr h)
        · rintro (h | h | h)
          · exact .inr (.inl h)
          · exact .inl h
          · exact .inr (.inr h)
theorem asc_ins {g : Fm} (hg : g.okL) : ∀ {l : List Fm}, asc l → (∀ x ∈ l, okL x) → asc (ins g l)
  | [], _, _ => by simp [ins, asc]
  | h :: r, hl, ho => by
    unfold asc at hl
    rw [List.pairwise_cons] at hl
    unfold ins
    split
    · exact List.pairwise_cons.mpr hl
    · rename_i ne
      split
      · rename_i lt
        refine List.pairwise_cons.mpr ⟨fun y hy => ?_, List.pairwise_cons.mpr hl⟩
        rcases List.mem_cons.mp hy with e | e
        · subst e
          exact lt
        · exact ltF_trans _ _ _ lt (hl.1 y e)
      · rename_i nlt
        refine List.pairwise_cons.mpr ⟨fun y hy => ?_, asc_ins hg hl.2 fun x hx => ho x (List.mem_cons_of_mem _ hx)⟩
        rcases mem_ins.mp hy with e | e
        · subst e
          refine ltS_of (by simpa using nlt) fun e => ne ?_
          exact (spell_inj (ho _ List.mem_cons_self) hg e).symm
        · exact hl.1 y e
theorem mem_fold {x : Fm} : ∀ {l : List Fm}, x ∈ l.foldr ins [] ↔ x ∈ l
  | [] => by simp
  | g :: l => by rw [List.foldr_cons, mem_ins, mem_fold, List.mem_cons]
theorem asc_fold : ∀ {l : List Fm}, (∀ x ∈ l, okL x) → asc (l.foldr ins [])
  | [], _ => List.Pairwise.nil
  | g :: l, h => asc_ins (h g List.mem_cons_self) (asc_fold fun x hx => h x (List.mem_cons_of_mem _ hx)) fun x hx => h x (List.mem_cons_of_mem _ (mem_fold.mp hx))
theorem mem_merge {x : Fm} {l m : List Fm} : x ∈ merge l m ↔ x ∈ l ∨ x ∈ m := by
  unfold merge
  split
  · rename_i e
    subst e
    simp
  · split
    · rename_i e
      subst e
      simp
    · rw [mem_fold, List.mem_append]
theorem asc_merge {l m : List Fm} (hl : asc l) (hm : asc m) (ol : ∀ x ∈ l, okL x) (om : ∀ x ∈ m, okL x) : asc (merge l m) := by
  unfold merge
  split
  · exact hm
  · split
    · exact hl
    · refine asc_fold fun x hx => ?_
      rcases List.mem_append.mp hx with h | h
      · exact ol x h
      · exact om x h
theorem alls_sub : ∀ {f : Fm}, f.okL → (∀ x ∈ f.alls, okL x) ∧ asc f.alls
  | .at _, _ => ⟨fun _ h => by simp [alls] at h, List.Pairwise.nil⟩
  | .no, _ => ⟨fun _ h => by simp [alls] at h, List.Pairwise.nil⟩
  | .imp a b, h => by
    obtain ⟨h1, h2⟩ := alls_sub h.1
    obtain ⟨h3, h4⟩ := alls_sub h.2
    exact ⟨fun x hx => (mem_merge.mp hx).elim (h1 x) (h3 x), asc_merge h2 h4 h1 h3⟩
  | .all a, h => by
    obtain ⟨h1, h2⟩ := alls_sub (f := a) h
    have h3 : ∀ x ∈ [Fm.all a], okL x := fun x hx => by
      rw [List.mem_singleton] at hx
      subst hx
      exact h
    exact ⟨fun x hx => (mem_merge.mp hx).elim (h1 x) (h3 x), asc_merge h2 (by simp [asc]) h1 h3⟩
end Fm
/-- the kit of formulas -/
@[reducible] def FK : FmKit where
  kind := Fm.kind
  many f := (f.many : Nat)
  deep f := (f.deep : Nat)
  atoms := Fm.atoms
  bare := Fm.outer
  spell := Fm.spell
  alls := Fm.alls
end N
set_option Elab.async false
set_option linter.all false
set_option maxRecDepth 100000
namespace N
open PySem PySem.Spec PyProof.Rows L2
open C8 (InsC)
theorem len_ok {n : Nat} (h : n ≤ 1000) : n ≤ sizeLine := by
  have := sizeLine_eq
  omega
section
variable {F : FmKit} {T : Kx} {C H H' O O' : Hp} {G : Gm} {W W' : Om} {σ : L2.St} {a p : Addr} {d : D} {l : List D}
  {te ta tb : TE} {t u : TT} {R R' : D → Om → Prop} {Z : Bool → Om → Prop} {tr tk : TA} {ts tz : TS}
/-- an owned cell is let go -/
theorem ev_drp (h : Ev F T te G W fun d W' => ∃ W2, W2.Sublist W' ∧ R d W2) : Ev F T te G W R := fun C H O σ w Q q => h C H O σ w Q fun d W' H' O' v ⟨W2, s, r⟩ n k => q d W2 H' O' v r ⟨n.ext, n.dis, n.oc, n.own.sub s⟩ k
theorem ca_drp {r : List V → Hp → VK → Prop} {ds : List D} (h : Ca F T r ds W fun d W' => ∃ W2, W2.Sublist W' ∧ R d W2) : Ca F T r ds W R := fun C H O di oc ow xs hx Q q => h C H O di oc ow xs hx Q fun d W' H' O' v ⟨W2, s, r⟩ n k => q d W2 H' O' v r ⟨n.ext, n.dis, n.oc, n.own.sub s⟩ k
def TyD (F : FmKit) (T : Kx) (W : Om) (d : D) (t : Value) : Prop := ∀ (C H O : Hp), Dis O H → Ow F T H C O W → ∀ x, Den F T H d x → TyX T.K (ov O H) x t
theorem ca_isi {c : V} {t u : Value} {b : Bool} (hc : ClsV c u) (ht : TyD F T W d t) (e : PySem.W.kitOne T.K t u = some b) (r : R (.bl b) W) : Ca F T (rIsi T.K) [d, .vl c] W R := ca_two fun C H O di oc ow x y hx hy Q q => by
  have hy : y = c := hy
  subst hy
  exact ⟨x, y, t, u, b, rfl, hc, ht C H O di ow x hx, e, q _ W H O _ r (.refl di oc ow) rfl⟩
theorem tyd_str {s : Str} : TyD F T W (.str s) (.type "str") := fun C H O di ow x k => by
  have k : x = .str s := k
  subst k
  exact .base (.str s)
theorem tyd_int {i : Int} : TyD F T W (.int i) (.type "int") := fun C H O di ow x k => by
  have k : x = .int i := k
  subst k
  exact .base (.int i)
theorem tyd_bl {i : Bool} : TyD F T W (.bl i) (.type "bool") := fun C H O di ow x k => by
  have k : x = .bl i := k
  subst k
  exact .base (.bl i)
theorem tyd_ins {c : Nat} {ns : List Str} (i : Inst F W d c ns l) (z : InsC T.K (T.cl c)) : TyD F T W d (.ref (T.cl c)) := fun C H O di ow x k => by
  obtain ⟨a, dx, fs, e, h1, h2, h3⟩ := i.at di ow k
  subst e
  exact .base (.ins h1 z.cl z.ha z.hn z.htk z.hm)
theorem isi_str {R : D → Om → Prop} {s : Str} (r : R (.bl true) W) : Ca F T (rIsi T.K) [.str s, .vl (.ty "str")] W R := ca_isi (.ty "str") tyd_str (by unfold PySem.W.kitOne; rfl) r
theorem isi_ins {c : Nat} {ns : List Str} (i : Inst F W d c ns l) (z : InsC T.K (T.cl c)) (r : R (.bl true) W) : Ca F T (rIsi T.K) [d, .adr (T.cl c)] W R := ca_isi (.own _) (tyd_ins i z) z.me r
theorem bo_addS {x y : Str} (hl : x.length + y.length ≤ sizeLine) (r : R (.str (x ++ y)) W) : Bo F T (fun x y H Q => ∃ i j, x = .str i ∧ y = .str j ∧ i.length + j.length ≤ sizeLine ∧ Q (.str (i ++ j)) H) (.str x) (.str y) W R :=
  op_sc fun H Q k => ⟨x, y, rfl, rfl, hl, k _ r⟩
theorem ev_fmt (h : Ev F T te G W fun d W1 => ∃ y : Str, d = .str y ∧ y.length ≤ sizeLine ∧ R (.str y) W1) : Ev F T (tFmt te) G W R := fun C H O σ w Q q =>
  h C H O σ w _ fun d W1 H1 O1 x ⟨y, e, hl, r⟩ n k => by
    subst e
    have k : x = .str y := k
    exact .inl ⟨y, k, hl, q _ W1 H1 O1 _ r n rfl⟩
/-- the parts of an f-string -/
def EvJ (F : FmKit) (T : Kx) : List TE → Str → Gm → Om → (Str → Om → Prop) → Prop
  | [], acc, _, W, Y => Y acc W
  | te :: ts, acc, G, W, Y => Ev F T te G W fun d W1 => ∃ y : Str, d = .str y ∧ (acc ++ y).length ≤ sizeLine ∧ EvJ F T ts (acc ++ y) G W1 Y
theorem EvJ.run {Y : Str → Om → Prop} : ∀ {ts : List TE} {acc : Str} {W : Om} {H O : Hp}, EvJ F T ts acc G W Y → Wd F T C G W H O σ → ∀ Q : Str → Hp → Prop, (∀ z W' H' O', Y z W' → Nx F T C W' H H' O' → Q z (ov O' H')) → tJs ts acc σ (ov O H) Q
  | [], acc, W, H, O, h, w, Q, q => q acc W H O h w.nx
  | te :: ts, acc, W, H, O, h, w, Q, q => h C H O σ w _ fun d W1 H1 O1 x ⟨y, e, hl, r⟩ n k => by
    subst e
    have k : x = .str y := k
    exact ⟨y, k, hl, EvJ.run r (w.step n) Q fun z W' H' O' yy n2 => q z W' H' O' yy (n.trans n2)⟩
theorem ev_joined {es : List TE} (h : EvJ F T es Str.empty G W fun z W' => R (.str z) W') : Ev F T (fun σ H Q => tJs es Str.empty σ H fun out H1 => Q (.str out) H1) G W R := fun C H O σ w Q q =>
  h.run w _ fun z W' H' O' y n => q _ W' H' O' _ y n rfl
theorem bo_catA {xs ys : List D} (hl : xs.length + ys.length ≤ sizeLine) (r : R (.tup (xs ++ ys)) W) : Bo F T (rCatA T.K) (.tup xs) (.tup ys) W R := fun C H O di oc ow x y hx hy Q q => by
  obtain ⟨a, us, ex, hs, kl⟩ := hx
  obtain ⟨b, vs, ey, ht, km⟩ := hy
  have n := Nx.refl di oc ow
  refine ⟨a, b, us, vs, ex, ey, Same.sqT di.same hs, Same.sqT di.same ht, by rw [kl.len, km.len]; exact hl, fun e => ?_, fun _ e => ?_, fun _ _ p hp => ?_⟩
  · subst e
    have e : xs = [] := by
      have := kl.len
      simpa using this.symm
    subst e
    exact q _ W H O _ r n ⟨b, vs, rfl, ht, km⟩
  · subst e
    have e : ys = [] := by
      have := km.len
      simpa using this.symm
    subst e
    exact q _ W H O _ r n ⟨a, us, rfl, hs, by rw [List.append_nil]; exact kl⟩
  · obtain ⟨n2, e2, s2⟩ := n.newF (o := .tup (us ++ vs)) hp
    rw [e2]
    exact q _ W _ O _ r n2 ⟨p, _, rfl, SqT.of upd_same, (kl.mono s2).app (km.mono s2)⟩
theorem bo_knin {dd : Addr} {z : Str} {r0 : Option Value} (e : PySem.W.nsIn T.K dd z = some r0) (r : R (.bl (!r0.isSome)) W) :
    Bo F T (fun x y H Q => ∃ (z : Str) (r : Option Value), x = .str z ∧ y = .ref dd ∧ PySem.W.nsIn T.K dd z = some r ∧ Q (.bl (!r.isSome)) H) (.str z) (.adr dd) W R := op_sc fun H Q k => ⟨z, r0, rfl, rfl, e, k _ r⟩
theorem bo_kix {w : World} {dd : Addr} {z : Str} {v : V} (e : KDct T.K w dd z v) (r : R (.vl v) W) : Bo F T (rIxD T.K w) (.adr dd) (.str z) W R := op_sc fun H Q k => ⟨dd, z, v, rfl, rfl, e, k _ r⟩
theorem ca_sortedD {ps : List (Key × D)} {ks : List Str} (hv : Vd W d ps) (hk : ps.map (·.1) = ks.map Sum.inr) (hl : ks.length < 64) (r : ∀ ys : List Str, ys.Perm ks → sortedS ys = true → R (.lst (ys.map D.str)) W) :
    Ca F T (fun xs H Q => ∃ (a : Addr) (kvs : List (Key × V)) (ks : List Str), xs = [.ref a] ∧ Rd H a (.dK kvs) ∧ kvs.map (·.1) = ks.map Sum.inr ∧ ks.length < 64 ∧
      ∀ ys p, ys.Perm ks → sortedS ys = true → H p = none → Q (.ref p) (upd H p (.lst (ys.map V.str)))) [d] W R := ca_one fun C H O di oc ow x k Q q => by
  obtain ⟨a, kvs, e, h1, h2, h3, h4⟩ := hv.at di ow k
  refine ⟨a, kvs, ks, by rw [e], .inl h1, h2.trans hk, hl, fun ys p hp hs hn => ?_⟩
  obtain ⟨n2, e2, s2⟩ := (Nx.refl (F := F) (T := T) di oc ow).newF (o := .lst (ys.map V.str)) hn
  rw [e2]
  refine q _ W _ O _ (r ys hp hs) n2 ⟨p, _, rfl, upd_same, ?_⟩
  have := DenL.vls (F := F) (T := T) (H := upd H p (.lst (ys.map V.str))) (ys.map V.str)
  rw [List.map_map] at this
  exact this
end
end N
set_option Elab.async false
set_option linter.all false
set_option maxRecDepth 100000
set_option maxHeartbeats 4000000
namespace N
open PySem PySem.Spec PyProof.Rows L2
def txOf (e : Int × Value) : Str := match e.2 with
  | .str k _ => k
  | _ => Str.empty
def GoodT (w : World) (e : Int × Value) : Prop := ∃ k tk, e.2 = Value.str k tk ∧ e.1 = hashStr w k
/-- the set of texts at a -/
def SetT (w : World) (h : Heap) (a : Addr) (M : Str → Bool) (n : Nat) : Prop :=
  ∃ o es ep t, h.get? a = some o ∧ o.ExactSet ∧ o.data = .set es ep t ∧ (∀ e ∈ es.toList, GoodT w e) ∧ (es.toList.map txOf).Nodup ∧ (∀ k, M k = true ↔ k ∈ es.toList.map txOf) ∧
    es.size < scanBound ∧ t.fits es.size = true ∧ es.size = n ∧ Ris t.place.toList ∧ (w.params.followText "set-order" = true ∨ t.led = true)
section
variable {P : Program} {w : World} {h h' : Heap} {a : Addr} {M : Str → Bool} {n : Nat}
theorem SetT.at (R : SetT w h a M n) (k : ∀ o, h.get? a = some o → h'.get? a = some o) : SetT w h' a M n := let ⟨o, es, ep, t, ho, r⟩ := R; ⟨o, es, ep, t, k o ho, r⟩
theorem SetT.lt (R : SetT w h a M n) : a < h.objs.size := let ⟨_, _, _, _, ho, _⟩ := R; Heap.lt_size ho
theorem SetT.congr {M' : Str → Bool} (R : SetT w h a M n) (e : ∀ k, M' k = M k) : SetT w h a M' n := (funext e : M' = M) ▸ R
theorem goodT_elems {l : List (Int × Value)} (g : ∀ e ∈ l, GoodT w e) : ElemsOf (strKind P w) l := fun e he => by
  obtain ⟨k, tk, h1, h2⟩ := g e he
  refine ⟨⟨k, ?_, h2⟩, by rw [h1]; rfl⟩
  rw [h1]
  exact strKind_is P w k tk
theorem goodT_is {e : Int × Value} (g : GoodT w e) (k : Str) : (strKind P w).is k e.2 = true ↔ txOf e = k := by
  obtain ⟨k0, tk, h1, _⟩ := g
  unfold txOf
  rw [h1]
  constructor
  · intro h
    obtain ⟨u, hu⟩ := Value.isStrOf_shape (show Value.isStrOf k (Value.str k0 tk) = true from h)
    injection hu
  · intro h
    have h : k0 = k := h
    subst h
    exact strKind_is P w _ _
theorem goodT_mem {l : List (Int × Value)} (g : ∀ e ∈ l, GoodT w e) (k : Str) : k ∈ l.map txOf ↔ ∃ e ∈ l, (strKind P w).is k e.2 = true := by
  rw [List.mem_map]
  exact ⟨fun ⟨e, he, q⟩ => ⟨e, he, (goodT_is (g e he) k).2 q⟩, fun ⟨e, he, q⟩ => ⟨e, he, (goodT_is (g e he) k).1 q⟩⟩
end
section
variable {P : Program} {w : World} {A : Around} {E : Value → Shared → Prop} {s : Shared} {a : Addr} {M : Str → Bool} {n : Nat}
theorem setT_tail {g : Bool → Sem Unit} (hg : ∀ (b : Bool) (z : Shared) (Z : Unit → Shared → Prop), Z () z → wpAny (model P w) A (g b) Z E z)
    {o : Obj} {es : Array (Int × Value)} {ep : Nat} {t : SetTable} (ho : s.heap.get? a = some o) (hex : o.ExactSet) (hd : o.data = .set es ep t)
    {es1 : Array (Int × Value)} {t2 : SetTable} {M' : Str → Bool} (g1 : ∀ e ∈ es1.toList, GoodT w e) (nd1 : (es1.toList.map txOf).Nodup) (m1 : ∀ k, M' k = true ↔ k ∈ es1.toList.map txOf)
    (hb1 : es1.size < scanBound) (hf2 : t2.fits es1.size = true) (hr : Ris t2.place.toList) (hl : w.params.followText "set-order" = true ∨ t2.led = true) {wd : Bool} {R : Option Bool → Shared → Prop}
    (hR : ∀ h', Heap.SameBut a s.heap h' → SetT w h' a M' es1.size → R (some true) { s with heap := h' }) :
    wpAny (model P w) A (do
        storeSet a es1 t2
        if (!wd && t2.tooFull) = true then do
            g (relayAll t2 es1 (SetTable.grown es1.size)).2.2
            storeSet a (relayAll t2 es1 (SetTable.grown es1.size)).1 (relayAll t2 es1 (SetTable.grown es1.size)).2.1
            pure (some true)
          else pure (some true)) R E s := by
  refine wpAny_bind (wpAny_storeSet_of ho hd ?_ (fits_of_scanBound hb1))
  have o1 := store_at (es' := es1) (t' := t2) ho hd
  have b1 := Heap.SameBut.update s.heap a (Obj.putSet es1 t2)
  split
  · have pm := relayAll_perm t2 es1 (SetTable.grown es1.size)
    have f3 := relayAll_fits t2 es1 (SetTable.grown es1.size)
    have r3 := relayAll_ris t2 es1 (SetTable.grown es1.size)
    have l3 := relayAll_led t2 es1 (SetTable.grown es1.size)
    generalize relayAll t2 es1 (SetTable.grown es1.size) = Y at pm f3 r3 l3 ⊢
    obtain ⟨es2, t3, gave⟩ := Y
    dsimp only at pm f3 r3 l3 ⊢
    have hz : es2.size = es1.size := by rw [← Array.length_toList, pm.length_eq, Array.length_toList]
    have b2 : es2.size < scanBound := hz ▸ hb1
    refine wpAny_bind (hg _ _ _ (wpAny_bind (wpAny_storeSet_of o1 rfl (wpAny_pure (hR _ (b1.trans (Heap.SameBut.update _ a _)) ?_)) (fits_of_scanBound b2))))
    exact ⟨_, es2, _, t3, store_at (es' := es2) (t' := t3) o1 rfl, hex, rfl, fun e he => g1 e (pm.mem_iff.mp he), (pm.map txOf).nodup_iff.mpr nd1, fun k => (m1 k).trans (pm.map txOf).mem_iff.symm, b2, f3, hz, r3, hl.imp id fun z => l3.trans z⟩
  · exact wpAny_pure (hR _ b1 ⟨_, es1, _, t2, o1, hex, rfl, g1, nd1, m1, hb1, hf2, rfl, hr, hl⟩)
theorem setT_add_hashed {k : Str} {tk : Tok} {Q : Bool → Shared → Prop} (R : SetT w s.heap a M n) (room : n + 1 < scanBound)
    (hQ : ∀ h', Heap.SameBut a s.heap h' → SetT w h' a (fun j => M j || decide (j = k)) (if M k = true then n else n + 1) → Q (!M k) { s with heap := h' }) :
    wpAny (model P w) A (setAddHashed a (.str k tk) ((strKind P w).hash k)) Q E s := by
  obtain ⟨o, es, ep, t, ho, hex, hd, g, nd, hm, hb, hf, hn, hr, hl⟩ := R
  have hk : (strKind P w).is k (.str k tk) = true := strKind_is P w k tk
  have sc : (Value.str k tk).scannable = true := rfl
  have hel : ElemsOf (strKind P w) es.toList := goodT_elems g
  unfold setAddHashed setAddHashedIn
  refine wpAny_holding (wpAny_bind (wpAny_setState_of ho hd hf ?_))
  dsimp only
  rw [byScan_of sc hb hel]
  simp only [↓reduceIte]
  unfold setAddByScan
  refine wpAny_bind (wpAny_bind (wpAny_rule (wpAny_bind (wpAny_setScan_of hk ho hd hf hel ?_))))
  cases hfi : List.findIdx? (fun e => (strKind P w).is k e.2) es.toList with
  | some j =>
    dsimp only
    obtain ⟨hj, pj, _⟩ := List.findIdx?_eq_some_iff_getElem.mp hfi
    have hM : M k = true := (hm k).2 ((goodT_mem (P := P) g k).2 ⟨es.toList[j], List.getElem_mem hj, pj⟩)
    refine wpAny_pure (wpAny_pure ?_)
    have q := hQ s.heap (Heap.SameBut.refl a s.heap) ⟨o, es, ep, t, ho, hex, hd, g, nd, fun i => by
      rw [Bool.or_eq_true, decide_eq_true_eq, ← hm i]
      exact ⟨fun z => z.elim id (fun e => e ▸ hM), .inl⟩, hb, hf, by rw [if_pos hM]; exact hn, hr, hl⟩
    rw [hM] at q
    exact q
  | none =>
    dsimp only
    have nk : k ∉ es.toList.map txOf := fun z => by
      obtain ⟨e, he, q⟩ := (goodT_mem (P := P) g k).1 z
      have c := List.findIdx?_eq_none_iff.mp hfi e he
      rw [q] at c
      cases c
    have hM : M k = false := by
      cases q : M k with
      | false => rfl
      | true => exact absurd ((hm k).1 q) nk
    have gw : ∀ (b : Bool) {z : Shared} {Z : Unit → Shared → Prop}, Z () z → wpAny (model P w) A (match b with | true => rule "set.scan.the-table-gave-way" | false => pure ()) Z E z :=
      fun b z Z q => by cases b <;> first | exact wpAny_pure q | exact wpAny_rule q
    have pm := layNew_perm t es ((strKind P w).hash k) (.str k tk)
    have f1 := layNew_fits t es ((strKind P w).hash k) (.str k tk)
    have r1 := layNew_ris t es ((strKind P w).hash k) (.str k tk) hr
    have l1 := layNew_led t es ((strKind P w).hash k) (.str k tk)
    generalize layNew t es ((strKind P w).hash k) (.str k tk) = Y at pm f1 r1 l1 ⊢
    obtain ⟨es1, t1, wd, gave⟩ := Y
    dsimp only at pm f1 r1 l1 ⊢
    rw [Array.toList_push] at pm
    have pc : es1.toList.Perm (((strKind P w).hash k, Value.str k tk) :: es.toList) := pm.trans (List.perm_append_singleton _ _)
    have pk : (es1.toList.map txOf).Perm (k :: es.toList.map txOf) := pc.map txOf
    have g1 : ∀ e ∈ es1.toList, GoodT w e := fun e he => by
      rcases List.mem_cons.mp (pc.mem_iff.mp he) with z | z
      · rw [z]; exact ⟨k, tk, rfl, rfl⟩
      · exact g e z
    have nd1 : (es1.toList.map txOf).Nodup := pk.nodup_iff.mpr (List.nodup_cons.mpr ⟨nk, nd⟩)
    have m1 : ∀ i, (M i || decide (i = k)) = true ↔ i ∈ es1.toList.map txOf := fun i => by
      rw [Bool.or_eq_true, decide_eq_true_eq, hm i, pk.mem_iff, List.mem_cons]
      exact Or.comm
    have hz : es1.size = n + 1 := by rw [← Array.length_toList, pc.length_eq, List.length_cons, Array.length_toList, hn]
    have hb1 : es1.size < scanBound := hz ▸ room
    have hled : w.params.followText "set-order" = true ∨ t1.led = true := hl.imp id fun z => l1.trans z
    have fin : ∀ h', Heap.SameBut a s.heap h' → SetT w h' a (fun j => M j || decide (j = k)) es1.size → Q true { s with heap := h' } := fun h' sb r => by
      have q := hQ h' sb
      rw [hM] at q
      rw [hz] at r
      exact q r
    refine wpAny_bind (gw _ ?_)
    split
    · refine wpAny_bind ?_
      rw [hashByValue_scannable 8 sc]
      refine wpAny_pure (setT_tail ?_ ho hex hd g1 nd1 m1 hb1 ?_ ?_ ?_ ?_)
      · intro b z Z q; cases b <;> first | exact wpAny_pure q | exact wpAny_rule q
      · first | (split <;> first | exact f1 | exact SetTable.fits_plain_off f1) | exact f1
      · first | (split <;> exact r1) | exact r1
      · first | (split <;> exact hled) | exact hled
      · intro h' sb r; dsimp only; exact wpAny_pure (fin h' sb r)
    · refine wpAny_bind (wpAny_pure ?_)
      simp only [↓reduceIte]
      refine setT_tail ?_ ho hex hd g1 nd1 m1 hb1 f1 r1 hled ?_
      · intro b z Z q; cases b <;> first | exact wpAny_pure q | exact wpAny_rule q
      · intro h' sb r; dsimp only; exact wpAny_pure (fin h' sb r)
theorem setT_new_at {h : Heap} {ks : List Str} (ho : h.get? a = some { cls := .type "set", dict := none, data := .set #[] 0 (.fresh 0 0 (!w.params.followText "set-order")) }) : SetT w h a (fun j => decide (j ∈ ks.take 0)) 0 :=
  ⟨_, #[], 0, _, ho, ⟨rfl, rfl, rfl⟩, rfl, (fun e he => by simp at he), (by simp), (fun k => by simp), (by decide), (by rfl), rfl, List.Pairwise.nil, by
    show _ ∨ (!w.params.followText "set-order") = true
    cases w.params.followText "set-order"
    · exact .inr rfl
    · exact .inl rfl⟩
theorem setT_loop {I : Addr} {fp wr : List Addr} {G : Array GenState → Array GenState → Prop} {n : Nat} {Pv : Nat → Value → Prop} {St : Nat → Shared → Prop} {R : Result → Shared → Prop}
    (W : WalksS P w A.in1 I fp wr G n Pv St) (Z : Addr) (hZ : Z ∉ fp) (ks : List Str) (hn : n = ks.length) (hb : ks.length + 1 < scanBound) (hval : ∀ i v, Pv i v → ∃ k t, ks[i]? = some k ∧ v = .str k t) :
    ∀ (j i : Nat) (s : Shared), n - i = j → i ≤ n → St i s → (∃ c, c ≤ i ∧ SetT w s.heap Z (fun j => decide (j ∈ ks.take i)) c) →
      (∀ s' c, Moved (Z :: wr) G s s' → c ≤ n → SetT w s'.heap Z (fun j => decide (j ∈ ks)) c → R (.ok (.ret .none)) s') →
      codeAny (model P w) A (.builtin "set.update.loop" ⟨[.ref Z, .ref I], []⟩) R s := by
  have hw : Z ∉ wr := fun h => hZ (W.sub _ h)
  have sub : ∀ b ∈ wr, b ∈ Z :: wr := fun b hb => List.mem_cons_of_mem _ hb
  intro j
  induction j with
  | zero =>
    intro i s hj hi hst ⟨c, hc, hS⟩ hR
    have e : i = n := by omega
    subst e
    refine codeAny_builtin F.entry_set_update_loop ?_
    rw [Around.under_plainId F.plain_set_update_loop _]
    show wpAny _ A.in1 (pyNext (.ref I) >>= _) _ _ s
    refine wpAny_bind (W.done s _ _ hst fun s' hm => (show wpAny _ A.in1 (ret Value.none) _ _ s' from ?_))
    rw [List.take_of_length_le (show ks.length ≤ i by omega)] at hS
    exact wpAny_pure (hR s' c (hm.mono sub) hc (hS.at fun o e => hm.heap Z o hw e))
  | succ j ih =>
    intro i s hj hi hst ⟨c, hc, hS⟩ hR
    have lt : i < n := by omega
    refine codeAny_builtin F.entry_set_update_loop ?_
    rw [Around.under_plainId F.plain_set_update_loop _]
    show wpAny _ A.in1 (pyNext (.ref I) >>= _) _ _ s
    refine wpAny_bind (W.item i s _ _ lt hst fun v s' hP hst' hm => ?_)
    obtain ⟨z, t, hz, rfl⟩ := hval i v hP
    have hS' : SetT w s'.heap Z (fun j => decide (j ∈ ks.take i)) c := hS.at fun o e => hm.heap Z o hw e
    show wpAny _ A.in1 (holding [Value.str z t] (setAdd Z (.str z t)) >>= _) _ _ s'
    unfold setAdd
    refine wpAny_bind (wpAny_holding (wpAny_holding (wpAny_bind ((strKind P w).pyHash (k := z) (strKind_is _ _ _ _) ?_))))
    refine setT_add_hashed (s := { s' with toks := s'.toks + 1 }) hS' (by omega) fun h' sb hS2 => ?_
    have hS3 : SetT w h' Z (fun j => decide (j ∈ ks.take (i + 1))) (if decide (z ∈ ks.take i) = true then c else c + 1) := hS2.congr fun j => by
      rw [List.take_add_one, hz]
      simp [List.mem_append]
    have hc3 : (if decide (z ∈ ks.take i) = true then c else c + 1) ≤ i + 1 := by split <;> omega
    refine wpAny_pure ⟨plainId_quiet F.plain_set_update_loop _, ih (i + 1) _ (by omega) lt (W.frame _ s' _ _ hst' (Nat.le_succ _) fun b hb o e => ?_) ⟨_, hc3, hS3⟩ fun s'' c2 m2 hc2 hS4 => ?_⟩
    · rw [sb.2 b (fun h : b = Z => hZ (by rw [← h]; exact hb))]; exact e
    · refine hR s'' c2 (Moved.trans W.gtrans ((hm.mono sub).then_heap (Nat.le_succ _) fun b o hb e => ?_) m2) hc2 hS4
      rw [sb.2 b (fun h : b = Z => hb (by rw [h]; exact List.mem_cons_self))]; exact e
end
end N
set_option Elab.async false
set_option linter.all false
set_option maxRecDepth 100000
set_option maxHeartbeats 4000000
namespace N
open PySem PySem.Spec PyProof.Rows L2
section
variable {P : Program} {w : World} {A : Around} {E : Value → Shared → Prop} {s : Shared}
abbrev newSetObj (w : World) : Obj := { cls := .type "set", dict := none, data := .set #[] 0 (.fresh 0 0 (!w.params.followText "set-order")) }
theorem set_made (x : Value) {Q : Value → Shared → Prop} (hh : A.handled = none)
    (up : ∀ (A' : Around) (Z : Unit → Shared → Prop), A'.handled = none → (∀ (h' : Heap) (tk : Nat), (∀ b o, s.heap.get? b = some o → h'.get? b = some o) → Q (.ref s.heap.objs.size) { s with heap := h', toks := tk } → Z () { s with heap := h', toks := tk }) →
      wpAny (model P w) A' (Builtin.Frozenset.updateFrom "set.__init__" s.heap.objs.size x) Z E { s with heap := s.heap.push (newSetObj w) }) :
    wpAny (model P w) A (call (.type "set") [x]) Q E s := by
  obtain ⟨c, tl, hmro⟩ := F.called_set.mro
  have hmade := F.called_set.made
  have hsub := F.called_set.sub
  refine wpAny_call (codeAny_of_tree ?_)
  show wpAny _ _ (callAny (.type "set") _) _ _ _
  refine wpAny_pure ⟨Code.quiet_builtin _ (by decide +kernel), codeAny_builtin F.entry_type_call ?_⟩
  rw [Around.under_plain (weight_type_call_type "set" [x] []) rfl]
  have h1 := F.called_set.notType
  have h2 := F.called_set.canCreate
  have hct := F.typeCall_set_1 x
  repeat (any_goals (first | assumption | wp_step))
  refine codeAny_mono (code_set_led1 x (E := E) (Q₁ := fun obj z => obj = .ref s.heap.objs.size ∧ z = { s with heap := s.heap.push (newSetObj w) }) ⟨rfl, rfl⟩) fun r z hr => ?_
  cases r with
  | error e => exact hr
  | ok fl =>
    cases fl with
    | ret obj =>
      obtain ⟨rfl, rfl⟩ := hr
      have hS : (s.heap.push (newSetObj w)).get? s.heap.objs.size = some (newSetObj w) := Heap.get?_push_size _ rfl
      have hT : Shared.TypeIs { s with heap := s.heap.push (newSetObj w) } (.ref s.heap.objs.size) "set" := ⟨_, hS, rfl⟩
      have hli := F.called_set.init.lookup
      have hbi := F.called_set.init.bind (.ref s.heap.objs.size)
      repeat (any_goals (first | assumption | wp_step))
      refine codeAny_mono (codeAny_call_builtin (R := wants (fun r z => r = .none ∧ ∃ h' tk, z = { s with heap := h', toks := tk } ∧ (∀ b o, s.heap.get? b = some o → h'.get? b = some o) ∧ Q (.ref s.heap.objs.size) z) E) F.called_set.init.plain F.entry_set_init (check_set_init_1 hT ?_)) fun r2 z2 hr2 => ?_
      · unfold Builtin.«set.__init__» noKeywords
        generalize hU : Builtin.Frozenset.updateFrom = U
        wp_walk
        subst hU
        refine up _ _ (by first | exact hh | simp [hh]) fun h' tk k q => ?_
        show wpAny _ _ (ret Value.none) _ _ _
        exact wpAny_pure ⟨rfl, h', tk, rfl, k, q⟩
      · cases r2 with
        | error e => exact hr2
        | ok fl2 =>
          cases fl2 with
          | ret r =>
            obtain ⟨rfl, h', tk, rfl, hk', hq⟩ := hr2
            repeat (any_goals (first | assumption | wp_step))
          | _ => exact hr2.elim
    | _ => exact hr.elim
end
end N
set_option Elab.async false
set_option linter.all false
set_option maxRecDepth 100000
set_option maxHeartbeats 4000000
namespace N
open PySem PySem.Spec PyProof.Rows L2
section
variable {P : Program} {w : World} {A : Around} {E : Value → Shared → Prop} {s : Shared}
theorem strsAre_get : ∀ {us : List Value} {xs : List Str}, StrsAre us xs → ∀ (i : Nat) (v : Value), us[i]? = some v → ∃ k t, xs[i]? = some k ∧ v = .str k t
  | _, _, .nil, i, v, h => by simp at h
  | _, _, .cons x t r, 0, v, h => ⟨x, t, rfl, (Option.some.inj h).symm⟩
  | _, _, .cons x t r, i + 1, v, h => strsAre_get r i v h
theorem set_of_strs {l : Addr} {items : Array Value} (ks : List Str) {Q : Value → Shared → Prop} (hh : A.handled = none) (hl : s.heap.IsList l items) (hit : StrsAre items.toList ks) (hb : ks.length + 1 < scanBound)
    (h : ∀ (h' : Heap) (tk c : Nat), SetT w h' s.heap.objs.size (fun j => decide (j ∈ ks)) c → c ≤ ks.length → (∀ b o, s.heap.get? b = some o → h'.get? b = some o) → Q (.ref s.heap.objs.size) { s with heap := h', toks := tk }) :
    wpAny (model P w) A (call (.type "set") [.ref l]) Q E s := by
  have hz : items.size = ks.length := by rw [← Array.length_toList, StrsAre.length hit]
  refine set_made (.ref l) hh fun A' Z hA fin => ?_
  obtain ⟨ol, hol, hcl, nl, hdl⟩ := hl
  obtain ⟨ocls, odict, odata, oslots⟩ := ol
  simp only at hcl hdl
  subst hcl; subst hdl
  have hol2 : (s.heap.push (newSetObj w)).get? l = some { cls := .type "list", dict := odict, data := .seq items nl, slots := oslots } := Heap.get?_push_of_some _ hol
  have hT : Shared.TypeIs { s with heap := s.heap.push (newSetObj w) } (.ref l) "list" := ⟨_, hol2, rfl⟩
  have hl1 : (s.heap.push (newSetObj w)).IsList l items := ⟨_, hol2, rfl, nl, rfl⟩
  have hS : (s.heap.push (newSetObj w)).get? s.heap.objs.size = some (newSetObj w) := Heap.get?_push_size _ rfl
  have q1 := F.sub_list_set
  have q2 := F.sub_list_frozenset
  have q3 : (Value.type "list" == Value.type "dict") = false := by decide
  unfold Builtin.Frozenset.updateFrom
  generalize hPI : pyIter = PI
  wp_walk
  subst hPI
  refine wpAny_pyIter_list hl1 ?_
  refine wpAny_bind (wpAny_runValue ?_)
  have hlS : l < s.heap.objs.size := Heap.lt_size hol
  have hA3 : A'.in1.handled = none := by simp [hA]
  have neI : l ≠ (s.heap.push (newSetObj w)).objs.size := by
    rw [Heap.size_push]; exact Nat.ne_of_lt (Nat.lt_succ_of_lt hlS)
  have nf : s.heap.objs.size ∉ [(s.heap.push (newSetObj w)).objs.size, l] := by
    rw [Heap.size_push]; simp only [List.mem_cons, List.mem_singleton, List.not_mem_nil, or_false, not_or]
    exact ⟨Nat.ne_of_lt (Nat.lt_succ_self _), Nat.ne_of_gt hlS⟩
  have hval : ∀ (i : Nat) (v : Value), items[i]? = some v → ∃ k t, ks[i]? = some k ∧ v = .str k t := fun i v hv => strsAre_get hit i v (by rw [Array.getElem?_toList]; exact hv)
  refine setT_loop ((Walks.list hA3 _ l neI items).toS) s.heap.objs.size nf ks hz hb hval (items.size - 0) 0 _ (by omega) (Nat.zero_le _)
    ⟨⟨_, Heap.get?_push_size _ rfl, rfl, rfl⟩, (hl1.push _)⟩ ⟨0, Nat.le_refl 0, setT_new_at (Heap.get?_push_of_some _ hS)⟩ fun s' c hm hc hM => ?_
  obtain ⟨h', g2, d', tk', os'⟩ := s'
  have eg : g2 = s.gens := hm.gens
  have ed : d' = s.drawn := hm.drawn
  have eo : os' = s.os := hm.os
  subst eg; subst ed; subst eo
  show wpAny _ _ _ _ _ _
  have k : ∀ b o, s.heap.get? b = some o → h'.get? b = some o := fun b o e => by
    have hb0 : b < s.heap.objs.size := Heap.lt_size e
    refine hm.heap b o ?_ (Heap.get?_push_of_some _ (Heap.get?_push_of_some _ e))
    rw [Heap.size_push]
    simp only [List.mem_cons, List.mem_singleton, List.not_mem_nil, or_false, not_or]
    exact ⟨Nat.ne_of_lt hb0, Nat.ne_of_lt (Nat.lt_succ_of_lt hb0)⟩
  exact wpAny_pure (fin h' tk' k (h h' tk' c hM (hz ▸ hc) k))
def signs (x : Str) : List Str := x.cps.toList.map fun c => ⟨#[c]⟩
theorem set_of_text {x : Str} {t : Tok} {Q : Value → Shared → Prop} (hh : A.handled = none) (hb : x.length + 1 < scanBound)
    (h : ∀ (h' : Heap) (tk c : Nat), SetT w h' s.heap.objs.size (fun j => decide (j ∈ signs x)) c → c ≤ x.length → (∀ b o, s.heap.get? b = some o → h'.get? b = some o) → Q (.ref s.heap.objs.size) { s with heap := h', toks := tk }) :
    wpAny (model P w) A (call (.type "set") [.str x t]) Q E s := by
  have hz : x.cps.size = (signs x).length := by unfold signs; rw [List.length_map, Array.length_toList]
  refine set_made (.str x t) hh fun A' Z hA fin => ?_
  have hS : (s.heap.push (newSetObj w)).get? s.heap.objs.size = some (newSetObj w) := Heap.get?_push_size _ rfl
  have q1 := F.sub_str_set
  have q2 := F.sub_str_frozenset
  have q3 : (Value.type "str" == Value.type "dict") = false := by decide
  unfold Builtin.Frozenset.updateFrom
  generalize hPI : pyIter = PI
  wp_walk
  subst hPI
  refine wpAny_pyIter_str fun o St W hst => ?_
  refine wpAny_bind (wpAny_runValue ?_)
  have hA3 : A'.in1.handled = none := by simp [hA]
  have nf : s.heap.objs.size ∉ [(s.heap.push (newSetObj w)).objs.size] := by
    rw [Heap.size_push]; simp only [List.mem_singleton]
    exact Nat.ne_of_lt (Nat.lt_succ_self _)
  have hval : ∀ (i : Nat) (v : Value), SignAt x i v → ∃ k t, (signs x)[i]? = some k ∧ v = .str k t := fun i v ⟨c, u, hc, e⟩ => by
    refine ⟨⟨#[c]⟩, u, ?_, e⟩
    unfold signs
    rw [List.getElem?_map, Array.getElem?_toList, hc]
    rfl
  refine setT_loop ((W A'.in1 hA3).toS) s.heap.objs.size nf (signs x) hz (by rw [← hz]; exact hb) hval (x.cps.size - 0) 0 _ (by omega) (Nat.zero_le _)
    hst ⟨0, Nat.le_refl 0, setT_new_at (Heap.get?_push_of_some _ hS)⟩ fun s' c hm hc hM => ?_
  obtain ⟨h', g2, d', tk', os'⟩ := s'
  have eg : g2 = s.gens := hm.gens
  have ed : d' = s.drawn := hm.drawn
  have eo : os' = s.os := hm.os
  subst eg; subst ed; subst eo
  show wpAny _ _ _ _ _ _
  have k : ∀ b o, s.heap.get? b = some o → h'.get? b = some o := fun b o e => by
    have hb0 : b < s.heap.objs.size := Heap.lt_size e
    refine hm.heap b o ?_ (Heap.get?_push_of_some _ (Heap.get?_push_of_some _ e))
    rw [Heap.size_push]
    simp only [List.mem_cons, List.mem_singleton, List.not_mem_nil, or_false, not_or]
    exact ⟨Nat.ne_of_lt hb0, Nat.ne_of_lt (Nat.lt_succ_of_lt hb0)⟩
  exact wpAny_pure (fin h' tk' k (h h' tk' c hM hc k))
theorem sorted_setT {a : Addr} {M : Str → Bool} {n : Nat} {Q : Value → Shared → Prop} (R : SetT w s.heap a M n) (hh : A.handled = none)
    (hQ : ∀ s' p (out : Array Value) (c : Nat) (ks : List Str), (∀ b o, s.heap.get? b = some o → s'.heap.get? b = some o) → s'.gens = s.gens → s'.os = s.os → s.heap.objs.size ≤ p →
      s'.heap.get? p = some (seqObj "list" out c) → StrsAre out.toList ks → sortedS ks = true → ks.Nodup → (∀ k, k ∈ ks ↔ M k = true) → ks.length = n → Q (.ref p) s') :
    wpAny (model P w) A (call (.builtin "sorted") [.ref a]) Q E s := by
  obtain ⟨o, es, ep, t, ho, hex, hd, g, nd, hm, hb, hf, hn, hr, hl⟩ := R
  refine Calls.call_function_entry kind_sorted plain_sorted entry_sorted (args_sorted1 _) ?_
  unfold Builtin.«sorted»
  refine wpAny_bind (m := checkCount "sorted" 1 1 _) (wpAny_pure (wpAny_bind (collect_set (A := A.in1) hh ⟨o, ho, hex.1, hd⟩ hf hb hr hl fun s1 vs k1 hz g1 o1 pm => ?_)))
  have hvl : vs.length = n := by rw [pm.length_eq, List.length_map, Array.length_toList]; exact hn
  have hI : StrsAre vs (vs.map strOf) := strsAre_map vs fun v hv => by
    obtain ⟨e, he, q⟩ := List.mem_map.mp (pm.mem_iff.mp hv)
    obtain ⟨k, tk, h1, _⟩ := g e he
    exact ⟨k, tk, by rw [← q]; exact h1⟩
  have pk : (vs.map strOf).Perm (es.toList.map txOf) := by
    have q := pm.map strOf
    rw [List.map_map] at q
    exact q
  have hs : vs.length ≤ sizeLine := by
    have : scanBound = 4096 := rfl
    rw [sizeLine_eq, hvl, ← hn]
    omega
  refine wpAny_bind (wpAny_newList ?_ hs)
  have hoL : (s1.heap.push (seqObj "list" vs.toArray 0)).get? s1.heap.objs.size = some (seqObj "list" vs.toArray 0) := Heap.get?_push_size _ rfl
  refine wpAny_bind (wpAny_holding (wpAny_call_entry slot_list_sort ⟨_, hoL, rfl⟩ entry_list_sort (list_sort_treeKAny strKind_oneLt hoL hI.keysOf (fun v₁ v₂ rest e => keyKind_strs (by rw [← e]; exact hI)) hs fun st' hp ht => ⟨_, rfl, ?_⟩) (args_list_sort _)))
  obtain ⟨ss, h1, h2, h3⟩ := sorted_out_str hI hp ht
  obtain ⟨c, hc⟩ := sortedHeap_at (vs := vs) (out := (arrOf st').map (·.2)) hoL
  have pn : ss.Perm (es.toList.map txOf) := h2.trans pk
  refine wpAny_pure ⟨_, rfl, hQ _ s1.heap.objs.size _ c ss (fun b u e => ?_) g1 o1 hz hc h1 h3 (pn.nodup_iff.mpr nd) (fun k => by rw [pn.mem_iff, ← hm k]) ?_⟩
  · have q := k1 b u e
    have hlt := Heap.lt_size q
    show (sortedHeap (s1.heap.push (seqObj "list" vs.toArray 0)) s1.heap.objs.size vs _).get? b = some u
    rw [sortedHeap_old (Nat.ne_of_lt hlt) (by rw [size_push']; exact Nat.lt_succ_of_lt hlt)]
    exact Heap.get?_push_of_some _ q
  · rw [pn.length_eq, List.length_map, Array.length_toList]; exact hn
end
end N
set_option Elab.async false
set_option linter.all false
set_option maxRecDepth 100000
set_option maxHeartbeats 4000000
namespace N
open PySem PySem.Spec PyProof.Rows L2
def SetTO (w : World) (a : Addr) (M : Str → Bool) (n : Nat) : HO := .ext fun h => SetT w h a M n
theorem setTO_new {w : World} {P : Program} {H : Hp} {h : Heap} {a : Addr} {M : Str → Bool} {n : Nat} (R : SetT w h a M n) : ObjOk P w H h a (SetTO w a M n) :=
  ⟨R, (let ⟨o, _, _, _, ho, _⟩ := R; ⟨o, ho⟩), fun h1 h2 p k => SetT.at p k⟩
theorem setTO_get {X : Cx} {pins : List (Addr × Obj)} {σ : L2.St} {H : Hp} {s : Shared} {a : Addr} {M : Str → Bool} {n : Nat} (I : Inv X pins σ H s) (ha : H a = some (SetTO X.w a M n)) : SetT X.w s.heap a M n := (I.hok a _ ha).1
def rSetT (K : PySem.W.Frag) (w : World) : List V → Hp → VK → Prop := fun xs H Q => ∃ (v : V) (ks : List Str), xs = [v] ∧ ((∃ l, v = .ref l ∧ SqL K H l (ks.map V.str)) ∨ ∃ x, v = .str x ∧ ks = signs x) ∧ ks.length + 1 < 4096 ∧
  ∀ a c, c ≤ ks.length → H a = none → Q (.ref a) (upd H a (SetTO w a (fun j => decide (j ∈ ks)) c))
theorem cr_setT {X : Cx} (hc : X.calm = true) : CallR X (.type "set") (rSetT X.K X.w) := by
  intro pins s σ H xs us Q I r h
  obtain ⟨v, ks, rfl, hv, hz, q⟩ := h
  have hn : H s.heap.objs.size = none := I.hok.fresh (Nat.le_refl _)
  have fin : ∀ (h' : Heap) (tk c : Nat), SetT X.w h' s.heap.objs.size (fun j => decide (j ∈ ks)) c → c ≤ ks.length → (∀ b o, s.heap.get? b = some o → h'.get? b = some o) → EP X pins σ Q (.ref s.heap.objs.size) { s with heap := h', toks := tk } := fun h' tk c R hc' k =>
    ⟨.ref s.heap.objs.size, upd H s.heap.objs.size (SetTO X.w s.heap.objs.size (fun j => decide (j ∈ ks)) c), I.laid (t' := tk) k (Nat.le_refl _) (setTO_new R), rfl, q _ c hc' hn⟩
  rcases hv with ⟨l, rfl, hl⟩ | ⟨x, rfl, rfl⟩
  · rw [Vals.ref1 r]
    obtain ⟨its, rv, pl, hlen⟩ := I.list hl
    exact set_of_strs (P := X.prog) (w := X.w) ks (I.ok.hd hc) pl.isList (by simpa using rv.strs) hz fin
  · obtain ⟨u, rfl, rx⟩ := vals1 r
    obtain ⟨t, rfl⟩ := rx
    have e : (signs x).length = x.length := by unfold signs; rw [List.length_map, ← str_len]
    rw [e] at hz fin
    exact set_of_text (P := X.prog) (w := X.w) (I.ok.hd hc) hz fin
def rSortedT (w : World) : List V → Hp → VK → Prop := fun xs H Q => ∃ (a : Addr) (M : Str → Bool) (n : Nat), xs = [.ref a] ∧ H a = some (SetTO w a M n) ∧ n ≤ 5000 ∧
  ∀ (ks : List Str) (p : Addr), sortedS ks = true → ks.Nodup → (∀ k, k ∈ ks ↔ M k = true) → ks.length = n → H p = none → Q (.ref p) (upd H p (.lst (ks.map V.str)))
theorem cr_sortedT {X : Cx} (hc : X.calm = true) : CallR X (.builtin "sorted") (rSortedT X.w) := by
  intro pins s σ H vs us Q I r h
  obtain ⟨a, M, n, rfl, ha, hn, q⟩ := h
  have R := setTO_get I ha
  rw [Vals.ref1 r]
  refine sorted_setT R (I.ok.hd hc) fun s' p out c ks k g o hp hg hi hs hd hm hl => ?_
  have hlen : (ks.map V.str).length ≤ sizeLine := by rw [List.length_map, hl, sizeLine_eq]; omega
  have hf : H p = none := I.hok.fresh hp
  have J : Inv X pins σ (upd H p (.lst (ks.map V.str))) { s with heap := s'.heap, gens := s'.gens, drawn := s'.drawn, toks := s'.toks } :=
    I.call (ch := []) (Un.laid k hp hf) (I.hok.laid k hp ⟨hlen, out.toList, c, vals_of_strs hi, hg⟩) (by rw [g]; exact I.bare) (fun _ z => nomatch z)
  have e : s' = { s with heap := s'.heap, gens := s'.gens, drawn := s'.drawn, toks := s'.toks } := by
    cases s'
    cases s
    cases o
    rfl
  rw [e]
  exact ⟨.ref p, _, J, rfl, q ks p hs hd hm hl hf⟩
def insS (k : Str) : List Str → List Str
  | [] => [k]
  | m :: r => if k = m then m :: r else if ltS k m then k :: m :: r else m :: insS k r
def ascS (l : List Str) : List Str := l.foldr insS []
theorem mem_insS {k x : Str} : ∀ {l : List Str}, x ∈ insS k l ↔ x = k ∨ x ∈ l
  | [] => by simp [insS]
  | m :: r => by
    unfold insS
    split
    · rename_i e
      subst e
      simp
    · split
      · simp
      · rw [List.mem_cons, mem_insS, List.mem_cons]
        constructor
        · rintro (h | h | h)
          · exact .inr (.inl h)
          · exact .inl h
          · exact .inr (.inr h)
        · rintro (h | h | h)
          · exact .inr (.inl h)
          · exact .inl h
          · exact .inr (.inr h)
theorem mem_ascS {x : Str} : ∀ {l : List Str}, x ∈ ascS l ↔ x ∈ l
  | [] => by simp [ascS]
  | k :: l => by
    show x ∈ insS k (ascS l) ↔ _
    rw [mem_insS, mem_ascS, List.mem_cons]
def AscS (l : List Str) : Prop := l.Pairwise fun a b => ltS a b = true
theorem asc_insS {k : Str} : ∀ {l : List Str}, AscS l → AscS (insS k l)
  | [], _ => by simp [insS, AscS]
  | m :: r, h => by
    obtain ⟨h1, h2⟩ := List.pairwise_cons.mp h
    unfold insS
    split
    · exact h
    · rename_i ne
      split
      · rename_i lt
        refine List.pairwise_cons.mpr ⟨fun y hy => ?_, h⟩
        rcases List.mem_cons.mp hy with e | e
        · rw [e]
          exact lt
        · exact ltS_trans lt (h1 y e)
      · rename_i nl
        refine List.pairwise_cons.mpr ⟨fun y hy => ?_, asc_insS h2⟩
        rcases mem_insS.mp hy with e | e
        · rw [e]
          exact ltS_of (by simpa using nl) (fun q => ne q.symm)
        · exact h1 y e
theorem asc_ascS : ∀ l : List Str, AscS (ascS l)
  | [] => List.Pairwise.nil
  | k :: l => asc_insS (asc_ascS l)
theorem ascS_ext {l m : List Str} (h : AscS l) (k : AscS m) (e : ∀ x, x ∈ l ↔ x ∈ m) : l = m := asc_ext (lt := fun a b => ltS a b = true) (fun a => by rw [ltS_irrefl]; exact Bool.false_ne_true) (fun _ _ _ a b => ltS_trans a b) h k e
theorem ascS_of {l m : List Str} (h : AscS l) (e : ∀ x, x ∈ l ↔ x ∈ m) : l = ascS m := ascS_ext h (asc_ascS m) fun x => by rw [e, mem_ascS]
theorem ascS_sorted {l m : List Str} (hs : sortedS l = true) (nd : l.Nodup) (e : ∀ x, x ∈ l ↔ x ∈ m) : l = ascS m := ascS_of (sorted_all hs nd) e
theorem ascS_len (l : List Str) : (ascS l).length ≤ l.length := by
  have ins : ∀ (k : Str) (m : List Str), (insS k m).length ≤ m.length + 1 := fun k m => by
    induction m with
    | nil => simp [insS]
    | cons x r ih =>
      unfold insS
      split
      · simp
      · split
        · simp
        · simp only [List.length_cons]
          omega
  induction l with
  | nil => simp [ascS]
  | cons k l ih =>
    have := ins k (ascS l)
    show (insS k (ascS l)).length ≤ l.length + 1
    omega
section
variable {F : FmKit} {T : Kx} {C H H' O O' : Hp} {G : Gm} {W W' : Om} {R : D → Om → Prop} {d : D} {w : World} {te to : TE}
theorem den_strs (ks : List Str) : DenL F T H (ks.map D.str) (ks.map V.str) := by
  have := DenL.vls (F := F) (T := T) (H := H) (ks.map V.str)
  rw [List.map_map] at this
  exact this
theorem den_strs_inv {ks : List Str} {xs : List V} (kl : DenL F T H (ks.map D.str) xs) : xs = ks.map V.str := by
  rw [show ks.map D.str = (ks.map V.str).map D.vl by rw [List.map_map]; rfl] at kl
  exact DenL.vls_inv kl
theorem ca_setT {ks : List Str} (hv : Vl W d (ks.map D.str) ∨ ∃ x, d = .str x ∧ ks = signs x) (hz : ks.length < 4000) (r : ∀ p c, p ∉ akeys W → c ≤ ks.length → R (.adr p) ((p, .any (SetTO w p (fun j => decide (j ∈ ks)) c)) :: W)) : Ca F T (rSetT T.K w) [d] W R := ca_one fun C H O di oc ow x k Q q => by
  refine ⟨x, ks, rfl, ?_, by omega, fun p c hc hp => ?_⟩
  · rcases hv with hv | ⟨z, rfl, rfl⟩
    · obtain ⟨a, xs, e, hs, kl⟩ := hv.sq ow di k
      rw [den_strs_inv kl] at hs
      exact .inl ⟨a, e, hs⟩
    · exact .inr ⟨z, k, rfl⟩
  · obtain ⟨n2, e2, np⟩ := (Nx.refl (F := F) (T := T) di oc ow).newO (od := .any (SetTO w p (fun j => decide (j ∈ ks)) c)) (o := SetTO w p (fun j => decide (j ∈ ks)) c) hp rfl
    rw [e2]
    exact q _ _ H _ _ (r p c np hc) n2 rfl
theorem ca_sortedT {p : Addr} {ks : List Str} {c : Nat} (hn : c ≤ 5000) (r : R (.lst ((ascS ks).map D.str)) W) : Ca F T (rSortedT w) [.adr p] ((p, .any (SetTO w p (fun j => decide (j ∈ ks)) c)) :: W) R := ca_one fun C H O di oc ow x k Q q => by
  have k : x = .ref p := k
  have h1 : O p = some (SetTO w p (fun j => decide (j ∈ ks)) c) := (ow.at_ p _ List.mem_cons_self).2
  refine ⟨p, _, c, by rw [k], ov_own h1, hn, fun ys p2 hs nd hm hl hp2 => ?_⟩
  obtain ⟨n2, e2, s2⟩ := (Nx.refl (F := F) (T := T) di oc ow).newF (o := .lst (ys.map V.str)) hp2
  rw [e2]
  have e : ys = ascS ks := ascS_sorted hs nd fun x => by rw [hm]; simp
  refine q _ W _ _ _ r ⟨n2.ext, n2.dis, n2.oc, n2.own.tail⟩ ?_
  rw [e]
  exact ⟨p2, (ascS ks).map V.str, rfl, by rw [← e]; exact upd_same, den_strs _⟩
/-- sep.join(texts) -/
theorem ev_join (h : Ev F T to G W fun d W1 => ∃ a : Str, d = .str a ∧ Ev F T te G W1 fun d2 W2 => ∃ ys : List Str, Vs W2 d2 (ys.map D.str) ∧ (ys.map (·.length)).sum + ys.length * a.length ≤ 16777216 ∧ R (.str (Txt.join a ys)) W2) :
    Ev F T (tM1 (fun x xs H Q => ∃ a p, ∃ ys : List Str, x = .str a ∧ xs = [.ref p] ∧ (SqL T.K H p (ys.map V.str) ∨ SqT T.K H p (ys.map V.str)) ∧ (ys.map (·.length)).sum + ys.length * a.length ≤ 16777216 ∧ Q (.str (Txt.join a ys)) H) to te) G W R := fun C H O σ w Q q =>
  h C H O σ w _ fun d W1 H1 O1 x ⟨a, e, h1⟩ n1 k1 => by
    subst e
    have k1 : x = .str a := k1
    refine ⟨⟨a, k1⟩, h1 C H1 O1 σ (w.step n1) _ fun d2 W2 H2 O2 y ⟨ys, hv, hz, r⟩ n2 k2 => ?_⟩
    obtain ⟨p, xs, e, hs, kl⟩ := hv.sq n2.own n2.dis k2
    rw [den_strs_inv kl] at hs
    exact ⟨a, p, ys, k1, by rw [e], hs, hz, q _ W2 H2 O2 _ r (n1.trans n2) rfl⟩
end
theorem ltS_sign (a b : Nat) : ltS ⟨#[a]⟩ ⟨#[b]⟩ = decide (a < b) := by simp [ltS, ltCps]
def sg (c : Nat) : Str := ⟨#[c]⟩
theorem sg_inj {a b : Nat} (h : sg a = sg b) : a = b := by
  have : [a] = [b] := congrArg (fun z : Str => z.cps.toList) h
  exact (List.cons.inj this).1
theorem insS_sg (c : Nat) : ∀ l : List Nat, insS (sg c) (l.map sg) = (insN c l).map sg
  | [] => rfl
  | m :: r => by
    rw [List.map_cons, insS, insN]
    by_cases e : c = m
    · subst e
      rw [if_pos rfl, if_pos rfl]
      rfl
    · rw [if_neg (fun h => e (sg_inj h)), if_neg e]
      by_cases lt : c < m
      · rw [if_pos (by rw [show ltS (sg c) (sg m) = decide (c < m) from ltS_sign c m]; simpa using lt), if_pos lt]
        rfl
      · rw [if_neg (by rw [show ltS (sg c) (sg m) = decide (c < m) from ltS_sign c m]; simpa using lt), if_neg lt, insS_sg c r]
        rfl
theorem ascS_sg : ∀ l : List Nat, ascS (l.map sg) = (l.foldr insN []).map sg
  | [] => rfl
  | c :: l => by
    show insS (sg c) (ascS (l.map sg)) = _
    rw [ascS_sg l, insS_sg]
    rfl
theorem join_nil_sg : ∀ l : List Nat, Txt.join "" (l.map sg) = ⟨l.toArray⟩ := fun l => by
  rw [show Txt.join "" (l.map sg) = Str.join "" (l.map sg) from PySem.StrLaws.glued_eq_join _ _]
  induction l with
  | nil => rfl
  | cons a l ih =>
    cases l with
    | nil => rfl
    | cons b r =>
      show (sg a ++ ("" : Str) ++ Str.join "" ((b :: r).map sg)) = _
      rw [ih]
      refine str_ext ?_
      rw [str_app, str_app]
      rfl
theorem insN_mem {c x : Nat} : ∀ {l : List Nat}, x ∈ insN c l ↔ x = c ∨ x ∈ l
  | [] => by simp [insN]
  | m :: r => by
    unfold insN
    split
    · rename_i e
      subst e
      simp
    · split
      · simp
      · rw [List.mem_cons, insN_mem, List.mem_cons]
        constructor
        · rintro (h | h | h)
          · exact .inr (.inl h)
          · exact .inl h
          · exact .inr (.inr h)
        · rintro (h | h | h)
          · exact .inr (.inl h)
          · exact .inl h
          · exact .inr (.inr h)
def ascN (l : List Nat) : List Nat := l.foldr insN []
theorem mem_ascN {x : Nat} : ∀ {l : List Nat}, x ∈ ascN l ↔ x ∈ l
  | [] => by simp [ascN]
  | k :: l => by
    show x ∈ insN k (ascN l) ↔ _
    rw [insN_mem, mem_ascN, List.mem_cons]
theorem asc_insN {k : Nat} : ∀ {l : List Nat}, l.Pairwise (· < ·) → (insN k l).Pairwise (· < ·)
  | [], _ => by simp [insN]
  | m :: r, h => by
    obtain ⟨h1, h2⟩ := List.pairwise_cons.mp h
    unfold insN
    split
    · exact h
    · rename_i ne
      split
      · rename_i lt
        refine List.pairwise_cons.mpr ⟨fun y hy => ?_, h⟩
        rcases List.mem_cons.mp hy with e | e
        · rw [e]
          exact lt
        · exact Nat.lt_trans lt (h1 y e)
      · rename_i nl
        refine List.pairwise_cons.mpr ⟨fun y hy => ?_, asc_insN h2⟩
        rcases insN_mem.mp hy with e | e
        · rw [e]
          omega
        · exact h1 y e
theorem asc_ascN : ∀ l : List Nat, (ascN l).Pairwise (· < ·)
  | [] => List.Pairwise.nil
  | k :: l => asc_insN (asc_ascN l)
theorem ascN_ext {l m : List Nat} (h : l.Pairwise (· < ·)) (k : m.Pairwise (· < ·)) (e : ∀ x, x ∈ l ↔ x ∈ m) : l = m := asc_ext (fun a => Nat.lt_irrefl a) (fun _ _ _ a b => Nat.lt_trans a b) h k e
/-- the letters of a text -/
abbrev lets (x : Str) : List Nat := x.cps.toList
theorem unite_asc {x y : Str} (hx : (lets x).Pairwise (· < ·)) : (lets (unite x y)).Pairwise (· < ·) := by
  unfold unite
  split
  · exact hx
  · exact asc_ascN _
theorem mem_unite {x y : Str} {c : Nat} : c ∈ lets (unite x y) ↔ c ∈ lets x ∨ c ∈ lets y := by
  unfold unite
  split
  · rename_i e
    subst e
    exact ⟨.inl, fun h => h.elim id id⟩
  · show c ∈ ascN (lets x ++ lets y) ↔ _
    rw [mem_ascN, List.mem_append]
end N
set_option Elab.async false
set_option linter.all false
set_option maxRecDepth 100000
namespace N
open PySem PySem.Spec PyProof.Rows L2
open C8 (InsC)
/-- the class Formula as the top has made it -/
structure CZ (K : PySem.W.Frag) (C : Addr) (ns : List Str) : Prop where
  cls : Cls K C
  nos : ∀ n ∈ ns, NoAttr K C n
  ins : InsC K C
  sf : PySem.W.selfFirst K C = true
  ist : PySem.W.kitOne K (.type "str") (.ref C) = some false
abbrev FZ (K : PySem.W.Frag) (C : Addr) : Prop := CZ K C fmNames
inductive FldF : Str → Fm → D → Prop
  | kind (f : Fm) : FldF "kind" f (.str f.kind)
  | parts (f : Fm) : FldF "parts" f (.tup (partsD f))
  | many (f : Fm) : FldF "many" f (.int (f.many : Nat))
  | deep (f : Fm) : FldF "deepest" f (.int (f.deep : Nat))
  | atoms (f : Fm) : FldF "atoms" f (.str f.atoms)
  | bare (f : Fm) : FldF "bare" f (.str f.outer)
  | spell (f : Fm) : FldF "spelled" f (.str f.spell)
  | alls (f : Fm) : FldF "alls_known" f (.tup (f.alls.map .fm))
theorem FldF.look {n : Str} {f : Fm} {z : D} (h : FldF n f z) : n ∈ fmNames ∧ (fmNames.zip (fmVals FK f)).lookup n = some z := by
  cases h <;> exact ⟨by decide +kernel, rfl⟩
section
variable {T : Kx} {C H H' O O' : Hp} {G : Gm} {W W' : Om} {σ : L2.St} {a p : Addr} {d : D} {l : List D} {ta : TE} {R : D → Om → Prop}
theorem ev_fmF {n : Str} (zf : FZ T.K (T.cl 0)) (h : Ev FK T ta G W fun d W1 => ∃ f z, d = .fm f ∧ FldF n f z ∧ R z W1) : Ev FK T (tFld T.K ta n) G W R :=
  ev_fld (h.imp fun d W1 ⟨f, z, e, k, r⟩ => by
    subst e
    exact ⟨0, fmNames, fmVals FK f, z, .fm f, zf.cls, zf.nos n k.look.1, k.look.2, r⟩)
/-- something with a text -/
def Spl (W : Om) (d : D) (g : Fm) : Prop := ∃ ns l, Inst FK W d 0 ns l ∧ (ns.zip l).lookup ("spelled" : Str) = some (.str g.spell)
theorem spl_fm (f : Fm) : Spl W (.fm f) f := ⟨_, _, .fm f, (FldF.spell f).look.2⟩
theorem Spl.up {W2 : Om} {g : Fm} (h : Spl W d g) (s : ∀ x ∈ W, x ∈ W2) : Spl W2 d g := by
  obtain ⟨ns, l, i, e⟩ := h
  refine ⟨ns, l, ?_, e⟩
  cases i with
  | fm f => exact .fm f
  | obj c ns l => exact .obj _ _ _
  | own a c ns l m => exact .own _ _ _ _ (s _ m)
theorem ev_spl {g : Fm} (zf : FZ T.K (T.cl 0)) (h : Ev FK T ta G W fun d W1 => Spl W1 d g ∧ R (.str g.spell) W1) : Ev FK T (tFld T.K ta "spelled") G W R :=
  ev_fld (h.imp fun d W1 ⟨⟨ns, l, i, e⟩, r⟩ => ⟨0, ns, l, _, i, zf.cls, zf.nos "spelled" (by decide +kernel), e, r⟩)
end
namespace Fm
theorem nodup_asc {l : List Fm} (h : asc l) : l.Nodup := h.imp fun {a b} k e => by
  subst e
  exact ltF_irrefl _ k
theorem len_le {l m : List Fm} (h : l.Nodup) (s : ∀ x ∈ l, x ∈ m) : l.length ≤ m.length := by
  induction l generalizing m with
  | nil => exact Nat.zero_le _
  | cons a l ih =>
    rw [List.nodup_cons] at h
    obtain ⟨p, q, e⟩ := List.append_of_mem (s a List.mem_cons_self)
    subst e
    have := ih (m := p ++ q) h.2 fun x hx => by
      have h1 := s x (List.mem_cons_of_mem _ hx)
      rw [List.mem_append, List.mem_cons] at h1
      rw [List.mem_append]
      rcases h1 with h1 | h1 | h1
      · exact .inl h1
      · subst h1
        exact absurd hx h.1
      · exact .inr h1
    simp at this ⊢
    omega
theorem asc_len {l : List Nat} {lo n : Nat} (h : l.Pairwise (· < ·)) (b : ∀ x ∈ l, lo ≤ x ∧ x < lo + n) : l.length ≤ n := by
  have nd : l.Nodup := h.imp fun q e => by omega
  have key : ∀ (l m : List Nat), l.Nodup → (∀ x ∈ l, x ∈ m) → l.length ≤ m.length := fun l => by
    induction l with
    | nil => intros; exact Nat.zero_le _
    | cons a l ih =>
      intro m h s
      rw [List.nodup_cons] at h
      obtain ⟨p, q, e⟩ := List.append_of_mem (s a List.mem_cons_self)
      subst e
      have := ih (p ++ q) h.2 fun x hx => by
        have h1 := s x (List.mem_cons_of_mem _ hx)
        rw [List.mem_append, List.mem_cons] at h1
        rw [List.mem_append]
        rcases h1 with h1 | h1 | h1
        · exact .inl h1
        · subst h1
          exact absurd hx h.1
        · exact .inr h1
      simp at this ⊢
      omega
  have := key l (List.range' lo n) nd fun x hx => by
    rw [List.mem_range'_1]
    exact b x hx
  simpa using this
theorem atoms_asc : ∀ f : Fm, (lets f.atoms).Pairwise (· < ·)
  | .at c => List.pairwise_singleton _ _
  | .no => List.Pairwise.nil
  | .imp a b => unite_asc (atoms_asc a)
  | .all a => atoms_asc a
theorem outer_asc : ∀ f : Fm, (lets f.outer).Pairwise (· < ·)
  | .at c => List.pairwise_singleton _ _
  | .no => List.Pairwise.nil
  | .imp a b => unite_asc (outer_asc a)
  | .all a => List.Pairwise.nil
theorem atoms_lets : ∀ {f : Fm}, f.okL → ∀ c ∈ lets f.atoms, (65 ≤ c ∧ c ≤ 90) ∨ (97 ≤ c ∧ c ≤ 122)
  | .at d, h, c, hc => by
    have : c = d := List.mem_singleton.mp hc
    subst this
    exact h
  | .no, _, c, hc => by cases hc
  | .imp a b, h, c, hc => (mem_unite.mp hc).elim (atoms_lets h.1 c) (atoms_lets h.2 c)
  | .all a, h, c, hc => atoms_lets (f := a) h c hc
theorem outer_sub : ∀ {f : Fm}, ∀ c ∈ lets f.outer, c ∈ lets f.atoms
  | .at d, c, hc => hc
  | .no, c, hc => hc
  | .imp a b, c, hc => mem_unite.mpr ((mem_unite.mp hc).imp (outer_sub c) (outer_sub c))
  | .all a, c, hc => by cases hc
theorem atoms_len {f : Fm} (h : f.okL) : f.atoms.length ≤ 58 := by
  rw [str_len]
  exact asc_len (atoms_asc f) (lo := 65) fun x hx => by
    have := atoms_lets h x hx
    omega
theorem outer_len {f : Fm} (h : f.okL) : f.outer.length ≤ 58 := by
  rw [str_len]
  exact asc_len (outer_asc f) (lo := 65) fun x hx => by
    have := atoms_lets h x (outer_sub x hx)
    omega
/-- small enough for the walk -/
structure okF (f : Fm) : Prop where
  ok : f.okL
  sz : f.sz ≤ 1000000
  alls : f.alls.length < 64
theorem okF.l {a b : Fm} (h : okF (.imp a b)) : okF a := ⟨h.ok.1, by have := h.sz; unfold Fm.sz at this; omega, Nat.lt_of_le_of_lt (len_le (nodup_asc (alls_sub h.ok.1).2) fun x hx => mem_merge.mpr (.inl hx)) h.alls⟩
theorem okF.r {a b : Fm} (h : okF (.imp a b)) : okF b := ⟨h.ok.2, by have := h.sz; unfold Fm.sz at this; omega, Nat.lt_of_le_of_lt (len_le (nodup_asc (alls_sub h.ok.2).2) fun x hx => mem_merge.mpr (.inr hx)) h.alls⟩
theorem okF.a {a : Fm} (h : okF (.all a)) : okF a := ⟨h.ok, by have := h.sz; unfold Fm.sz at this; omega, Nat.lt_of_le_of_lt (len_le (nodup_asc (alls_sub (f := a) h.ok).2) fun x hx => mem_merge.mpr (.inl hx)) h.alls⟩
end Fm
theorem kind_at {f : Fm} : f.kind = ("atom" : Str) ↔ ∃ c, f = .at c := by
  cases f with
  | «at» c => exact ⟨fun _ => ⟨c, rfl⟩, fun _ => rfl⟩
  | no => exact ⟨fun h => absurd h (by decide +kernel), fun ⟨c, h⟩ => by cases h⟩
  | imp a b => exact ⟨fun h => absurd (show ("if" : Str) = "atom" from h) (by decide +kernel), fun ⟨c, h⟩ => by cases h⟩
  | all a => exact ⟨fun h => absurd (show ("all" : Str) = "atom" from h) (by decide +kernel), fun ⟨c, h⟩ => by cases h⟩
theorem parts_fm : ∀ {f : Fm}, (∀ c, f ≠ .at c) → ∀ d ∈ partsD f, ∃ g, d = .fm g
  | .at c, h, _, _ => absurd rfl (h c)
  | .no, _, d, h => by simp [partsD] at h
  | .imp a b, _, d, h => by
    simp [partsD] at h
    rcases h with h | h
    · exact ⟨a, h⟩
    · exact ⟨b, h⟩
  | .all a, _, d, h => by
    simp [partsD] at h
    exact ⟨a, h⟩
section
variable {T : Kx} {x : Addr} {n : Str} {z : D} {ns : List Str} {l : List D} {R : Om → Prop}
theorem rcv_new (zf : FZ T.K (T.cl 0)) (hn : n ∈ fmNames) (h : n ∉ ns) (hl : ns.length < 1000) (r : R [(x, .ins 0 (ns ++ [n]) (l ++ [z]))]) : Rcv FK T (.adr x) z n [(x, .ins 0 ns l)] R :=
  ⟨x, 0, ns, l, [], [], _, _, rfl, rfl, zf.cls, zf.nos n hn, hl, .new ns l h, r⟩
theorem rcv_at (j : Nat) (zf : FZ T.K (T.cl 0)) (hn : n ∈ fmNames) (h : ns.Nodup) (hj : ns[j]? = some n) (hl : ns.length < 1000) (r : R [(x, .ins 0 ns (l.set j z))]) : Rcv FK T (.adr x) z n [(x, .ins 0 ns l)] R :=
  ⟨x, 0, ns, l, [], [], _, _, rfl, rfl, zf.cls, zf.nos n hn, hl, .at ns l j h hj, r⟩
end
theorem allsD_of {x : Addr} {f : Fm} : ∀ {e : List (D × Fm)}, (∀ p ∈ e, p.1 = .fm p.2 ∨ (p.1 = .adr x ∧ p.2 = f)) → AllsD x f (e.map (·.1)) (e.map (·.2))
  | [], _ => rfl
  | p :: e, h => ⟨p.2, _, rfl, h p List.mem_cons_self, allsD_of fun q hq => h q (List.mem_cons_of_mem _ hq)⟩
theorem fm_map (l : List Fm) : (l.map fun g => (D.fm g, g)).map (·.1) = l.map .fm := by rw [List.map_map]; rfl
theorem fm_map2 (l : List Fm) : (l.map fun g => (D.fm g, g)).map (·.2) = l := by rw [List.map_map]; exact List.map_id l
theorem max_int (m n : Nat) : (if (n : Int) > (m : Int) then (n : Int) else (m : Int)) = ((max m n : Nat) : Int) := by
  split <;> omega
theorem empty_app (x : Str) : Str.empty ++ x = x := str_ext (by rw [str_app]; rfl)
@[reducible] def kvE (l : List (D × Fm)) : List (Key × D) := l.map fun p => (Sum.inr p.2.spell, p.1)
theorem kvE_keys (l : List (D × Fm)) : (kvE l).map (·.1) = (l.map fun p => p.2.spell).map Sum.inr := by simp [kvE]
theorem getG_kvE : ∀ {l : List (D × Fm)} {p : D × Fm}, p ∈ l → (l.map fun p => p.2.spell).Nodup → getG (kvE l) (Sum.inr p.2.spell) = some p.1
  | [], p, h, _ => by simp at h
  | q :: l, p, h, nd => by
    rw [List.map_cons, List.nodup_cons] at nd
    unfold getG kvE
    rw [List.map_cons, List.find?_cons]
    by_cases e : (Sum.inr q.2.spell : Key) = Sum.inr p.2.spell
    · simp only [e, decide_true, Option.map_some]
      rcases List.mem_cons.mp h with h | h
      · rw [h]
      · refine absurd (List.mem_map.mpr ⟨p, h, ?_⟩) nd.1
        exact (Sum.inr.inj e).symm
    · simp only [e, decide_false]
      rcases List.mem_cons.mp h with h | h
      · exact absurd (by rw [h]) e
      · exact getG_kvE h nd.2
theorem put_kvE {l : List (D × Fm)} {d : D} {g : Fm} (ol : ∀ p ∈ l, p.2.okL) (og : g.okL) : ∃ l', putG (kvE l) (Sum.inr g.spell) d = kvE l' ∧ (∀ p ∈ l', p ∈ l ∨ p = (d, g)) ∧ (∀ x ∈ l.map (·.2), x ∈ l'.map (·.2)) ∧ g ∈ l'.map (·.2) ∧ l'.length ≤ l.length + 1 := by
  unfold putG
  split
  · rename_i ha
    refine ⟨l.map fun q => if q.2.spell = g.spell then (d, q.2) else q, ?_, fun p hp => ?_, fun x hx => ?_, ?_, by simp⟩
    · simp only [kvE, List.map_map]
      refine List.map_congr_left fun q hq => ?_
      by_cases e : q.2.spell = g.spell
      · simp [Function.comp, e]
      · simp [Function.comp, e]
    · obtain ⟨q, hq, e⟩ := List.mem_map.mp hp
      by_cases h : q.2.spell = g.spell
      · rw [if_pos h] at e
        rw [Fm.spell_inj (ol q hq) og h] at e
        exact .inr e.symm
      · rw [if_neg h] at e
        subst e
        exact .inl hq
    · obtain ⟨q, hq, e⟩ := List.mem_map.mp hx
      refine List.mem_map.mpr ⟨_, List.mem_map.mpr ⟨q, hq, rfl⟩, ?_⟩
      split
      · exact e
      · exact e
    · rw [List.any_eq_true] at ha
      obtain ⟨z, hz, e⟩ := ha
      obtain ⟨q, hq, e2⟩ := List.mem_map.mp hz
      subst e2
      have e := Sum.inr.inj (of_decide_eq_true e)
      refine List.mem_map.mpr ⟨_, List.mem_map.mpr ⟨q, hq, rfl⟩, ?_⟩
      rw [if_pos e]
      exact Fm.spell_inj (ol q hq) og e
  · refine ⟨l ++ [(d, g)], by simp [kvE], fun p hp => ?_, fun x hx => ?_, by simp, by simp⟩
    · rcases List.mem_append.mp hp with h | h
      · exact .inl h
      · exact .inr (List.mem_singleton.mp h)
    · rw [List.map_append]
      exact List.mem_append_left _ hx
theorem merge_of {l m : List Fm} {e : List (D × Fm)} (hl : l ≠ []) (hm : m ≠ []) (ol : ∀ x ∈ l ++ m, x.okL) (hs : sortedS (e.map fun p => p.2.spell) = true) (nd : (e.map fun p => p.2.spell).Nodup) (h : ∀ x, x ∈ e.map (·.2) ↔ x ∈ l ++ m) : e.map (·.2) = Fm.merge l m := by
  unfold Fm.merge
  rw [if_neg hl, if_neg hm]
  refine Fm.asc_eq ?_ (Fm.asc_fold ol) fun x => by rw [h x, Fm.mem_fold]
  have := sorted_all hs nd
  rw [List.pairwise_map] at this
  unfold Fm.asc
  rw [List.pairwise_map]
  exact this
def isLet (x : Str) : Bool := match lets x with
  | [c] => decide ((65 ≤ c ∧ c ≤ 90) ∨ (97 ≤ c ∧ c ≤ 122))
  | _ => false
theorem isLet_sg (c : Nat) : isLet (sg c) = decide ((65 ≤ c ∧ c ≤ 90) ∨ (97 ≤ c ∧ c ≤ 122)) := rfl
theorem isLet_of {x : Str} (h : isLet x = true) : ∃ c, x = sg c ∧ ((65 ≤ c ∧ c ≤ 90) ∨ (97 ≤ c ∧ c ≤ 122)) := by
  unfold isLet at h
  split at h
  · rename_i c e
    exact ⟨c, str_ext e, of_decide_eq_true h⟩
  · cases h
theorem isLet_long {x : Str} (h : x.length ≠ 1) : isLet x = false := by
  unfold isLet
  split
  · rename_i c e
    rw [str_len, show x.cps.toList = [c] from e] at h
    exact absurd rfl h
  · rfl
theorem one_sign {x : Str} (h : x.length = 1) : ∃ c, x = sg c := by
  rw [str_len] at h
  match e : x.cps.toList, h with
  | [c], _ => exact ⟨c, str_ext e⟩
theorem in_letters (c : Nat) : decide (c ∈ ("ABCDEFGHIJKLMNOPQRSTUVWXYZabcdefghijklmnopqrstuvwxyz" : Str).cps.toList) = isLet (sg c) := by
  rw [isLet_sg]
  have e : ("ABCDEFGHIJKLMNOPQRSTUVWXYZabcdefghijklmnopqrstuvwxyz" : Str).cps.toList = List.range' 65 26 ++ List.range' 97 26 := by decide +kernel
  rw [e]
  congr 1
  rw [List.mem_append, List.mem_range'_1, List.mem_range'_1]
  simp only [eq_iff_iff]
  omega
def S_united : FS := fun ds W post => ∃ x y : Str, ds = [.str x, .str y] ∧ x.length + y.length < 4000 ∧ W = [] ∧ post (.str (unite x y)) []
def S_merged : FS := fun ds W post => ∃ e1 e2 : List (D × Fm), ds = [.tup (e1.map (·.1)), .tup (e2.map (·.1))] ∧ (∀ p ∈ e1 ++ e2, p.2.okL ∧ Spl W p.1 p.2) ∧ e1.length < 64 ∧ e2.length < 64 ∧ (Fm.merge (e1.map (·.2)) (e2.map (·.2))).length < 64 ∧
  ∀ e' : List (D × Fm), e'.map (·.2) = Fm.merge (e1.map (·.2)) (e2.map (·.2)) → (∀ p ∈ e', p ∈ e1 ++ e2) → post (.tup (e'.map (·.1))) W
def S_init : FS := fun ds W post => ∃ (x : Addr) (f : Fm), ds = [.adr x, .str f.kind, .tup (partsD f)] ∧ W = [(x, .ins 0 [] [])] ∧ f.okF ∧
  ∀ al, AllsD x f al f.alls → post .non [(x, .ins 0 fmNames [.str f.kind, .tup (partsD f), .int (f.many : Nat), .int (f.deep : Nat), .str f.atoms, .str f.outer, .str f.spell, .tup al])]
end N
set_option Elab.async false
set_option linter.all false
set_option maxRecDepth 100000
namespace N
open PySem PySem.Spec PyProof.Rows L2
theorem relV_ref (a : Addr) : RelV (.ref a) (.ref a) := rfl
theorem relV_ty (s : String) : RelV (.ty s) (.type s) := rfl
section
variable {X : Cx} {K : PySem.W.Frag}
theorem pe_fldK {e : Expr} {f : Str} {pos : Pos} {ta : TE} (hK : X.K = K) (h : PE X e ta) (hb : attributeBase e f X.env (eval e X.env) = eval e X.env) : PE X (e.Attribute f pos) (tFld K ta f) := hK ▸ pe_fld h hb
theorem op_in_seqK (hK : X.K = K) : OpR X (compareOp .In) (rIn K false) := hK ▸ op_in_seq
theorem pg_tupK {pos : Pos} {es : List Expr} {k : Nat} {t : TGs} {n : Nat} (hK : X.K = K) (hc : X.calm = true) (h : PGs X es t) (h1 : (assignEach es X.env).length = n := by rfl) (h2 : List.findIdx? (fun x => x.1) (assignEach es X.env) = none := by rfl) : PG X (Expr.Tuple es k pos) (gTup K n t) := hK ▸ pg_tup hc h h1 h2
theorem pi_listK {tg l : Expr} {tl : TE} (hK : X.K = K) (h : PE X l tl) : PI X tg l (iList K tl) := hK ▸ pi_list h
end
def tIfT (tc ta tb : TT) : TT := fun σ H Q => tc σ H fun c H1 => if c = true then ta σ H1 Q else tb σ H1 Q
theorem pt_ifE {X : Cx} {c a b : Expr} {tc ta tb : TT} {pos : Pos} (hc : PT X c tc) (ha : PT X a ta) (hb : PT X b tb) : PT X (.IfExp c a b pos) (tIfT tc ta tb) := by
  refine ⟨fun pins s σ H Q I h => ?_⟩
  rw [PySem.arm_isTrue_IfExp]
  refine wpAny_bind (thn (hc.run pins s σ H _ I h) fun d s1 ⟨H1, I1, q1⟩ => ?_)
  cases d with
  | true => exact ha.run pins s1 σ H1 Q I1 q1
  | false => exact hb.run pins s1 σ H1 Q I1 q1
theorem et_ifE {F : FmKit} {T : Kx} {tc ta tb : TT} {G : Gm} {W : Om} {S : Bool → Om → Prop} (h : EvT F T tc G W fun c W1 => if c = true then EvT F T ta G W1 S else EvT F T tb G W1 S) : EvT F T (tIfT tc ta tb) G W S := fun C H O σ w Q q =>
  h C H O σ w _ fun c W1 H1 O1 s n => by
    cases c with
    | true => exact s C H1 O1 σ (w.step n) _ fun b W2 H2 O2 s2 n2 => q b W2 H2 O2 s2 (n.trans n2)
    | false => exact s C H1 O1 σ (w.step n) _ fun b W2 H2 O2 s2 n2 => q b W2 H2 O2 s2 (n.trans n2)
end N
set_option Elab.async false
set_option linter.all false
set_option maxRecDepth 100000
namespace N
open PySem PySem.Spec PyProof.Rows L2
open C8 (InsC Cal)
namespace Fm
abbrev neg (f : Fm) : Fm := .imp f .no
abbrev conj (f g : Fm) : Fm := neg (.imp f (neg g))
end Fm
section
variable {T : Kx} {C H H' O O' : Hp} {G : Gm} {W W' : Om} {σ : L2.St} {a p : Addr} {d : D} {l : List D} {ta : TE} {tr : TA} {R : D → Om → Prop} {S : FS} {E : XK}
/-- Formula(kind, ..) -/
theorem ev_mkF (h : EvA FK T tr G W fun ds W1 => ∃ f : Fm, ds = .str f.kind :: partsD f ∧ f.okF ∧ R (.fm f) W1) : Ev FK T (StX.tMakeR (T.cl 0) (spN FK T (starS 2 S_init)) E tr) G W R :=
  ev_fz (ev_makeR (fun C H O σ w Q q => h C H O σ w Q fun ds W1 H1 O1 vs ⟨f, e, hf, r⟩ n k => q ds W1 H1 O1 vs (fun x hx => by
    subst e
    refine ⟨[(x, .ins 0 [] [])], W1, List.Perm.refl _, by simp, ?_, x, f, rfl, rfl, hf, fun al ha => ⟨rfl, x, _, W1, .fm f, rfl, List.Perm.refl _, .fm f al ha, r⟩⟩
    have : (partsD f).length ≤ 2 := by cases f <;> simp [partsD]
    simp
    omega) n k))
theorem ev_inv (h : Ev FK T ta G W fun d W1 => ∃ f, d = .fm f ∧ Hand S [.fm f] W1 R) : Ev FK T (tUn (rOwn1 (T.cl 0) (spN FK T S) E) ta) G W R :=
  ev_un (h.imp fun d W1 ⟨f, e, hh⟩ => by
    subst e
    exact ca_own1 (.fm f) hh)
theorem ca_strF {f : Fm} (h : Hand S [.fm f] W fun d' W' => (∃ z, d' = .str z) ∧ R d' W') : Ca FK T (rStrO (T.cl 0) (spN FK T S)) [.fm f] W R := ca_strO (.fm f) h
theorem ev_prpF (h : Ev FK T ta G W fun d W1 => ∃ f, d = .fm f ∧ Hand S [.fm f] W1 R) : Ev FK T (tProp (T.cl 0) (spN FK T S) [] E ta) G W R :=
  ev_prop (h.imp fun d W1 ⟨f, e, hh⟩ => by
    subst e
    exact ⟨_, _, .fm f, hh⟩)
theorem ca_strS {s : Str} (h : R (.str s) W) : Ca FK T (fun xs H Q => ∃ a, xs = [.str a] ∧ Q (.str a) H) [.str s] W R := cl_sc (xs := [.str s]) fun H Q k => ⟨s, rfl, k _ h⟩
end
/-- a property by the promise of its getter -/
structure Prp (P : Program) (w : World) (K : PySem.W.Frag) (mg : Str → Option Value) (base : Heap) (k : Nat) (C : Addr) (m : Str) (sp : Sp) : Prop where
  ex : ∃ (p g : Addr) (fd : FuncData) (ps : List Str), PropOf K C m p g ∧ FnOk P w K mg base C8.CX0 k g fd ps sp ∧ Binds K fd ps []
theorem prpD {P : Program} {w : World} {K : PySem.W.Frag} {mg : Str → Option Value} {base : Heap} {F : FmKit} {cl : Nat → Addr} {S : FS} {m qual : Str} {C p : Addr} {st : Stmt} {f : Addr} {fd : FuncData} {N ps : List Str} {k : Nat} (o : PropOf K C m p f) (Fn : Fun K m qual st f fd) (Sc : FnScope N ps (defScope st)) (len : ∀ ds W post, S ds W post → ds.length = ps.length)
    (hb : ∀ (kV doc pm : Value) (an : Option Addr) (cdv ct : Value) (us : List Value), us.length = ps.length → bindArgs (PySem.W.fnOf m qual (defArgs st) (defBody st) (defScope st) .none kV doc pm an cdv ct) ⟨us, []⟩ = pure (ps.zip us))
    (body : ∀ (cdv : Value) (A : Around) (outer : List Env) (s : Shared) (H : Hp) (E : XK), Room k (A.deeper (envOfC qual (defScope st) s.heap.objs.size f cdv)) →
      ∃ t, PSs (cxOf C8.CX0 P w K mg base N qual (defScope st) f cdv A outer s H E).nox (defBody st) t ∧ ∀ ds W post, S ds W post → Sw F ⟨K, cl⟩ t (startD N ds) W (E_ post)) : Prp P w K mg base (k + 1) C m (spN F ⟨K, cl⟩ S) :=
  ⟨p, f, fd, ps, o, okD Fn Sc len body, Fn.binds hb⟩
theorem pe_prp {X : Cx} {k j : Nat} {C : Addr} {f : Str} {sp : Sp} {e : Expr} {pos : Pos} {ta : TE} (c : Prp X.prog X.w X.K X.mg X.base k C f sp) (cls : Cls X.K C) (hr : Room j X.A) (hk : k + 1 ≤ j) (he : PE X e ta) (hab : attributeBase e f X.env (eval e X.env) = eval e X.env := by rfl) :
    PE X (e.Attribute f pos) (tProp C sp [] E0 ta) := by
  obtain ⟨p, g, fd, ps, o, h, b⟩ := c.ex
  exact pe_prop he cls o h (hr.mono hk) b .nil pass0 hab
/-- a formula, or the atom of a letter -/
def Opd (d : D) (f : Fm) : Prop := d = .fm f ∨ ∃ c, ((65 ≤ c ∧ c ≤ 90) ∨ (97 ≤ c ∧ c ≤ 122)) ∧ d = .str (sg c) ∧ f = .at c
def S_opd : FS := fun ds W post => ∃ (d : D) (f : Fm), ds = [d] ∧ W = [] ∧ Opd d f ∧ post (.fm f) []
def S_str : FS := fun ds W post => ∃ f : Fm, ds = [.fm f] ∧ W = [] ∧ post (.str f.spell) []
end N
set_option Elab.async false
set_option linter.all false
set_option maxRecDepth 100000
namespace N
open PySem PySem.Spec PyProof.Rows L2
section
variable {F : FmKit} {T : Kx} {C H H' O O' : Hp} {G : Gm} {W W' : Om} {R : D → Om → Prop} {d : D}
theorem bo_inSg {c : Nat} {z : Str} (r : R (.bl (decide (c ∈ z.cps.toList))) W) : Bo F T (fun x y H Q => ∃ (c : Nat) (z : Str), x = .str ⟨#[c]⟩ ∧ y = .str z ∧ Q (.bl (decide (c ∈ z.cps.toList))) H) (.str (sg c)) (.str z) W R := op_sc fun H Q k => ⟨c, z, rfl, rfl, k _ r⟩
theorem isi_strF {s : Str} {c : Nat} {ns : List Str} (z : CZ T.K (T.cl c) ns) (r : R (.bl false) W) : Ca F T (rIsi T.K) [.str s, .adr (T.cl c)] W R := ca_isi (.own _) tyd_str z.ist r
end
end N
set_option Elab.async false
set_option linter.all false
set_option maxRecDepth 100000
namespace N
open PySem PySem.Spec PyProof.Rows L2
open C8 (Cal)
structure Ok1 (k n : Nat) (d : PyData) : Prop where
  lv : PyData.leavesShort 13 d = true
  sh : d.showable = true
  nd : d.hasDict = false
  dp : d.depth ≤ k
  wt : d.weight ≤ n
theorem Ok1.up {k n k' n' : Nat} {d : PyData} (h : Ok1 k n d) (hk : k ≤ k') (hn : n ≤ n') : Ok1 k' n' d := ⟨h.lv, h.sh, h.nd, Nat.le_trans h.dp hk, Nat.le_trans h.wt hn⟩
/-- data one behind the other -/
structure OkL (k n : Nat) (l : List PyData) : Prop where
  lv : PyData.leavesShortAll 13 l = true
  sh : PyData.showableAll l = true
  nd : PyData.hasDictAll l = false
  dp : PyData.depthAll l ≤ k
  wt : PyData.weightAll l ≤ n
theorem OkL.lst {k n : Nat} {l : List PyData} (h : OkL k n l) : Ok1 (k + 1) n (.list l) := by
  refine ⟨by simp [PyData.leavesShort, h.lv], by simp [PyData.showable, h.sh], by simp [PyData.hasDict, h.nd], ?_, ?_⟩
  · have := h.dp
    simp only [PyData.depth]
    omega
  · have := h.wt
    simp only [PyData.weight]
    omega
theorem OkL.tup {k n : Nat} {l : List PyData} (h : OkL k n l) : Ok1 (k + 1) n (.tuple l) := by
  refine ⟨by simp [PyData.leavesShort, h.lv], by simp [PyData.showable, h.sh], by simp [PyData.hasDict, h.nd], ?_, ?_⟩
  · have := h.dp
    simp only [PyData.depth]
    omega
  · have := h.wt
    simp only [PyData.weight]
    omega
theorem OkL.up {k n k' n' : Nat} {l : List PyData} (h : OkL k n l) (hk : k ≤ k') (hn : n ≤ n') : OkL k' n' l := ⟨h.lv, h.sh, h.nd, Nat.le_trans h.dp hk, Nat.le_trans h.wt hn⟩
section
variable {F : FmKit} {T : Kx} {C H H' O O' : Hp} {G : Gm} {W W' : Om} {R : D → Om → Prop} {S : FS} {tk : TA}
theorem bo_isB {a b : Bool} (r : R (.bl (decide (a = b))) W) : Bo F T rIsB (.bl a) (.bl b) W R := op_sc fun H Q k => ⟨a, b, rfl, rfl, k _ r⟩
end
section
variable {F : FmKit} {T : Kx} {C H H' O O' : Hp} {G : Gm} {W W' : Om} {R : D → Om → Prop} {d e : D} {l m : List D} {te : TE} {t : TT}
theorem ei_imp {wi : TI} {Y Z : List D → Om → Prop} (h : EvI F T wi G W Y) (i : ∀ l W', Y l W' → Z l W') : EvI F T wi G W Z := fun C H O σ w Q q => h C H O σ w Q fun J ds W' H' O' y => q J ds W' H' O' (i _ _ y)
/-- list, tuple or text by a place -/
theorem bo_ixSq {i : Int} {z : D} (hv : Vs W d l) (hi : atI l i = some z) (r : R z W) : Bo F T (rIx T.K) d (.int i) W R := fun C H O di oc ow x y hx hy Q q => by
  obtain ⟨a, xs, e, hs, kl⟩ := hv.sq ow di hx
  have hy : y = .int i := hy
  obtain ⟨v, ev, kv⟩ := kl.atI hi
  subst e hy
  rcases hs with hs | hs
  · exact .inl ⟨a, xs, i, v, rfl, rfl, hs, ev, q z W H O v r (.refl di oc ow) kv⟩
  · exact .inr (.inl ⟨a, xs, i, v, rfl, rfl, hs, ev, q z W H O v r (.refl di oc ow) kv⟩)
theorem bo_ixSqS {i : Int} {x : Str} {c : Nat} (hl : x.length ≤ sizeLine) (hi : atI (lets x) i = some c) (r : R (.str (sg c)) W) : Bo F T (rIx T.K) (.str x) (.int i) W R := op_sc fun H Q k => .inr (.inr ⟨x, i, c, rfl, rfl, hl, hi, k _ r⟩)
/-- lists joined, frozen -/
theorem bo_cat (h1 : Vt W d l) (h2 : Vt W e m) (hl : l.length + m.length ≤ sizeLine) (r : R (.lst (l ++ m)) W) : Bo F T rCat d e W R := fun C H O di oc ow x y hx hy Q k => by
  obtain ⟨a, us, ea, ha, ku⟩ := h1.at ow di hx
  obtain ⟨b, vs, eb, hb, kv⟩ := h2.at ow di hy
  refine ⟨a, b, us, vs, ea, eb, ha, hb, by rw [ku.len, kv.len]; exact hl, fun z hz => ?_⟩
  obtain ⟨n2, e2, s2⟩ := (Nx.refl (F := F) (T := T) di oc ow).newF (o := .lst (us ++ vs)) hz
  rw [e2]
  exact k _ _ _ _ _ r n2 ⟨z, _, rfl, upd_same, (ku.mono s2).app (kv.mono s2)⟩
/-- a comprehension, frozen -/
theorem ev_lcF {vs : List Nat} {wi : TI} {g : TG} (h : EvI F T wi G W fun ds W1 => ∃ I : Nat → List D → Om → Prop, I 0 [] W1 ∧
      (∀ i d acc W', ds[i]? = some d → I i acc W' → Tw F T vs g d (wipeG G vs) fun G2 => EvT F T t G2 W' fun b W2 => if b = true then Ev F T te G2 W2 (fun z W3 => acc.length < sizeLine ∧ I (i + 1) (acc ++ [z]) W3) else I (i + 1) acc W2) ∧
      (∀ acc W', I ds.length acc W' → R (.lst acc) W')) : Ev F T (tLc wi g t te vs) G W R :=
  ev_fz (ev_lc (ei_imp h fun ds W1 ⟨I, h1, h2, h3⟩ => ⟨I, h1, h2, fun acc W' hi p hp => ⟨p, _, W', _, rfl, List.Perm.refl _, .lst _, h3 acc W' hi⟩⟩))
/-- .. each item by itself -/
theorem ev_lcM {vs : List Nat} {wi : TI} {g : TG} (h : EvI F T wi G W fun ds W1 => ∃ es : List D, (∀ (i : Nat) (d e : D), ds[i]? = some d → es[i]? = some e → Tw F T vs g d (wipeG G vs) fun G2 => EvT F T t G2 W1 fun b W2 => b = true ∧ Ev F T te G2 W2 (fun z W3 => z = e ∧ W3 = W1)) ∧ es.length = ds.length ∧ es.length ≤ sizeLine ∧ R (.lst es) W1) : Ev F T (tLc wi g t te vs) G W R :=
  ev_lcF (ei_imp h fun ds W1 ⟨es, h3, h1, h2, h4⟩ => ⟨fun i acc W' => W' = W1 ∧ acc = es.take i, ⟨rfl, by simp⟩, fun i d acc W' hd ⟨e1, e2⟩ => by
    subst e1 e2
    have hi : i < ds.length := (List.getElem?_eq_some_iff.mp hd).1
    have he : es[i]? = some es[i] := List.getElem?_eq_getElem (by omega)
    refine fun H H1 σ v lo s k Q q => h3 i d es[i] hd he H H1 σ v lo s k Q fun G2 σ2 et l2 w2 => q G2 σ2 (fun C H O σ w Q q => et C H O σ w Q fun b W2 H2 O2 ⟨e, ev⟩ n => q b W2 H2 O2 ?_ n) l2 w2
    subst e
    rw [if_pos rfl]
    refine ev.imp fun z W3 ⟨e1, e2⟩ => ⟨by rw [List.length_take]; omega, e2, ?_⟩
    rw [e1, List.take_add_one, he]
    rfl, fun acc W' ⟨e1, e2⟩ => by
    subst e1 e2
    rw [← h1, List.take_length]
    exact h4⟩)
/-- .. with a test -/
theorem ev_lcP {vs : List Nat} {wi : TI} {g : TG} (h : EvI F T wi G W fun ds W1 => ∃ es : List (Bool × D), (∀ (i : Nat) (d : D) (e : Bool × D), ds[i]? = some d → es[i]? = some e → Tw F T vs g d (wipeG G vs) fun G2 => EvT F T t G2 W1 fun b W2 => b = e.1 ∧ if b = true then Ev F T te G2 W2 (fun z W3 => z = e.2 ∧ W3 = W1) else W2 = W1) ∧ es.length = ds.length ∧ es.length ≤ sizeLine ∧ R (.lst ((es.filter (·.1)).map (·.2))) W1) : Ev F T (tLc wi g t te vs) G W R :=
  ev_lcF (ei_imp h fun ds W1 ⟨es, h3, h1, h2, h4⟩ => ⟨fun i acc W' => W' = W1 ∧ acc = ((es.take i).filter (·.1)).map (·.2), ⟨rfl, by simp⟩, fun i d acc W' hd ⟨e1, e2⟩ => by
    subst e1 e2
    have hi : i < ds.length := (List.getElem?_eq_some_iff.mp hd).1
    have he : es[i]? = some es[i] := List.getElem?_eq_getElem (by omega)
    refine fun H H1 σ v lo s k Q q => h3 i d es[i] hd he H H1 σ v lo s k Q fun G2 σ2 et l2 w2 => q G2 σ2 (fun C H O σ w Q q => et C H O σ w Q fun b W2 H2 O2 ⟨e, ev⟩ n => q b W2 H2 O2 ?_ n) l2 w2
    have hf : ((es.take (i + 1)).filter (·.1)) = (es.take i).filter (·.1) ++ if es[i].1 = true then [es[i]] else [] := by
      rw [List.take_add_one, he, List.filter_append]
      congr 1
      simp only [Option.toList_some, List.filter_cons, List.filter_nil]
    have hl : (((es.take i).filter (·.1)).map (·.2)).length < sizeLine := by
      have := List.length_filter_le (fun z : Bool × D => z.1) (es.take i)
      rw [List.length_take] at this
      rw [List.length_map]
      omega
    cases b with
    | true =>
      rw [if_pos rfl] at ev
      refine if_so rfl ?_
      refine ev.imp fun z W3 ⟨e1, e2⟩ => ⟨hl, e2, ?_⟩
      rw [hf, if_pos e.symm, List.map_append, e1]
      rfl
    | false =>
      rw [if_neg Bool.false_ne_true] at ev
      refine if_not rfl ?_
      refine ⟨ev, ?_⟩
      rw [hf, if_neg (by rw [← e]; exact Bool.false_ne_true), List.append_nil], fun acc W' ⟨e1, e2⟩ => by
    subst e1 e2
    rw [← h1, List.take_length]
    exact h4⟩)
end
theorem cut63 {xs : List D} (h : xs.length ≤ 63) : cutD xs none (some 63) = xs := by
  unfold cutD
  have e1 : HT.sIx xs.length 0 none = 0 := rfl
  have e2 : HT.sIx xs.length xs.length (some 63) = min 63 xs.length := HT.sIx_nat _ _ 63
  rw [e1, e2, List.drop_zero]
  exact List.take_of_length_le (by omega)
/-- a deck at a, c draws done, all that belongs to it in W -/
abbrev Deck := Addr → Int → Om → Prop
abbrev kS (s : Str) : Key := Sum.inr s
def S_deck (Dk : Deck) : FS := fun ds W post => ∃ ns : List Int, ds = [.scr (ns.map V.int)] ∧ W = [] ∧ ns.length ≤ 63 ∧ ∀ (a : Addr) (W' : Om), Dk a 0 W' → post (.adr a) W'
def S_draw (Dk : Deck) : FS := fun ds W post => ∃ (a : Addr) (c n : Int), ds = [.adr a, .int n] ∧ Dk a c W ∧ 0 < n ∧ n < 1073741824 ∧ c < 2 ^ 60 ∧
  ∀ (z : Int) (W' : Om), 0 ≤ z → z < n → Dk a (c + 1) W' → post (.int z) W'
def S_pick (Dk : Deck) : FS := fun ds W post => ∃ (a : Addr) (c : Int) (m : D), ds = [.adr a, m] ∧ Dk a c W ∧ c < 2 ^ 60 ∧
  ((∃ l : List D, (m = .lst l ∨ m = .tup l) ∧ l ≠ [] ∧ l.length ≤ 1000000 ∧ ∀ z ∈ l, ∀ W', Dk a (c + 1) W' → post z W') ∨
   ∃ x : Str, m = .str x ∧ x.length ≠ 0 ∧ x.length ≤ 1000000 ∧ ∀ q ∈ lets x, ∀ W', Dk a (c + 1) W' → post (.str (sg q)) W')
theorem at_of_draw {α : Type} {l : List α} {z : Int} (h0 : 0 ≤ z) (h1 : z < l.length) : ∃ y ∈ l, atI l z = some y := by
  have hz : z.toNat < l.length := by omega
  refine ⟨l[z.toNat], List.getElem_mem hz, ?_⟩
  unfold atI ixN
  rw [if_pos h0, if_pos h1]
  simp [hz]
/-- what is asked of law: a list of at most 63 ints in, True out -/
def spTop (K : PySem.W.Frag) : Sp := fun vs H Q _ => ∃ (a : Addr) (ns : List Int), vs = [.ref a] ∧ SqL K H a (ns.map V.int) ∧ ns.length ≤ 63 ∧ ∀ H', Q (.bl true) H'
def S_law : FS := fun ds W post => ∃ ns : List Int, ds = [.scr (ns.map V.int)] ∧ W = [] ∧ ns.length ≤ 63 ∧ ∀ W', post (.bl true) W'
theorem top_sp {K : PySem.W.Frag} {cl : Nat → Addr} {vs : List V} {H : Hp} {Q : VK} {E : XK} (h : spTop K vs H Q E) : spN FK ⟨K, cl⟩ S_law vs H Q E := by
  obtain ⟨a, ns, rfl, hs, hl, q⟩ := h
  refine ⟨[.scr (ns.map V.int)], [], fun _ => none, H, fun _ => none, fun d W' => d = .bl true, ?_, ?_, fun _ _ e => e, ⟨List.nodup_nil, fun _ _ h => by cases h⟩, ⟨_, _, rfl, ⟨a, rfl, hs⟩, rfl⟩, ⟨ns, rfl, rfl, hl, fun W' => rfl⟩, fun d W' H' O' v e n kd => ?_⟩
  · funext b
    rfl
  · intro b o e
    cases e
  · subst e
    have kd : v = .bl true := kd
    subst kd
    exact q _
end N
set_option Elab.async false
set_option linter.all false
set_option maxRecDepth 100000
namespace L2
open PySem PySem.Spec PyProof.Rows
end L2
namespace N
open PySem L2
theorem ev_neg {F : FmKit} {T : Kx} {G : Gm} {W : Om} {R : D → Om → Prop} {ta : TE} {g : Int → V} (h : Ev F T ta G W fun d W1 => ∃ i : Int, d = .int i ∧ R (.vl (g i)) W1) : Ev F T (tUn (rU g) ta) G W R :=
  ev_un (h.imp fun d W1 ⟨i, e, r⟩ => by
    subst e
    exact cl_sc (xs := [.int i]) fun H Q k => ⟨.int i, rfl, i, rfl, k _ r⟩)
end N
set_option Elab.async false
set_option linter.all false
set_option maxRecDepth 100000
namespace N
open PySem PySem.Spec PyProof.Rows L2
section
variable (F : FmKit) (T : Kx)
def EvPs : List (TE × TE) → Gm → Om → List (Key × D) → (List (Key × D) → Om → Prop) → Prop
  | [], _, W, acc, Y => Y acc W
  | (tk, tv) :: r, G, W, acc, Y => Ev F T tk G W fun y W1 => Ev F T tv G W1 fun z W2 => ∃ k, y = kD k ∧ EvPs r G W2 (acc ++ [(k, z)]) Y
end
def mergeG (ps : List (Key × D)) : List (Key × D) := ps.foldl (fun acc kv => putG acc kv.1 kv.2) []
section
variable {F : FmKit} {T : Kx} {C H H' O O' : Hp} {G : Gm} {W W' : Om} {R : D → Om → Prop} {σ : L2.St} {d e : D} {l m : List D} {te : TE} {t : TT}
theorem EvPs.run {Y : List (Key × D) → Om → Prop} : ∀ {trs : List (TE × TE)} {acc : List (Key × D)} {W : Om} {H O : Hp}, EvPs F T trs G W acc Y → Wd F T C G W H O σ → ∀ Q : List (V × V) → Hp → Prop,
    (∀ (ps : List (Key × D)) (kvs : List (Key × V)) W' H' O', Y (acc ++ ps) W' → Nx F T C W' H H' O' → kvs.map (·.1) = ps.map (·.1) → DenL F T H' (ps.map (·.2)) (kvs.map (·.2)) → ps.length = trs.length → Q (kvs.map fun kv => (kV kv.1, kv.2)) (ov O' H')) → tPairs trs σ (ov O H) Q
  | [], acc, W, H, O, h, w, Q, q => q [] [] W H O (by rw [List.append_nil]; exact h) w.nx rfl rfl rfl
  | (tk, tv) :: r, acc, W, H, O, h, w, Q, q => h C H O σ w _ fun y W1 H1 O1 yv h1 n1 k1 => h1 C H1 O1 σ (w.step n1) _ fun z W2 H2 O2 zv ⟨k, ek, h2⟩ n2 k2 => by
    subst ek
    have k1 : yv = kV k := k1
    subst k1
    refine EvPs.run h2 ((w.step n1).step n2) _ fun ps kvs W' H' O' y n3 e1 e2 e3 => ?_
    refine q ((k, z) :: ps) ((k, zv) :: kvs) W' H' O' (by simpa using y) ((n1.trans n2).trans n3) (by simp [e1]) ⟨zv, _, rfl, k2.mono n3.ext, e2⟩ (by simp [e3])
theorem mergeK_keys : ∀ {ps : List (Key × D)} {kvs : List (Key × V)} {acc : List (Key × D)} {av : List (Key × V)}, kvs.map (·.1) = ps.map (·.1) → av.map (·.1) = acc.map (·.1) → (acc.map (·.1)).Nodup → DenL F T H (ps.map (·.2)) (kvs.map (·.2)) → DenL F T H (acc.map (·.2)) (av.map (·.2)) →
    (mergeK av kvs).map (·.1) = (ps.foldl (fun acc kv => putG acc kv.1 kv.2) acc).map (·.1) ∧ ((ps.foldl (fun acc kv => putG acc kv.1 kv.2) acc).map (·.1)).Nodup ∧ DenL F T H ((ps.foldl (fun acc kv => putG acc kv.1 kv.2) acc).map (·.2)) ((mergeK av kvs).map (·.2))
  | [], [], acc, av, _, e, nd, _, k => ⟨e, nd, k⟩
  | [], _ :: _, _, _, h, _, _, _, _ => by simp at h
  | _ :: _, [], _, _, h, _, _, _, _ => by simp at h
  | (k, z) :: ps, (j, v) :: kvs, acc, av, h, e, nd, ⟨w, r, e1, k1, k2⟩, ka => by
    simp only [List.map_cons, List.cons.injEq] at h e1
    obtain ⟨h1, h2⟩ := h
    obtain ⟨e1, e2⟩ := e1
    subst h1 e1 e2
    exact mergeK_keys (ps := ps) (kvs := kvs) (acc := putG acc j z) (av := putK av j v) h2 ((putG_V av j v) ▸ putG_keys (z := v) (y := z) e) (putG_nodup nd) k2 ((putG_V av j v) ▸ putG_den k1 e ka)
/-- {k: e, ..} -/
theorem ev_disp {trs : List (TE × TE)} (h : EvPs F T trs G W [] fun ps W' => ps.length ≤ 15 ∧ ∀ p, p ∉ akeys W' → R (.adr p) ((p, .dp (mergeG ps)) :: W')) : Ev F T (tDisp trs) G W R := fun C H O σ w Q q p hp => by
  obtain ⟨n0, e0, cp⟩ := w.nx.hide (o := .dK []) hp
  rw [e0]
  refine EvPs.run h ⟨n0.dis, n0.oc, w.loc, n0.own⟩ _ fun ps kvs W' H' O' y n e1 e2 e3 => ?_
  have hO : ov O' H' p = some (.dK []) := ov_own (n.oc p _ upd_same)
  have hl : kvs.length = ps.length := by
    have := congrArg List.length e1
    rwa [List.length_map, List.length_map] at this
  obtain ⟨y1, y2⟩ := y
  refine ⟨hO, kvs, rfl, by rw [hl]; exact y1, ?_⟩
  obtain ⟨n6, e6⟩ := Nx.rehide (o' := .dK (mergeK [] kvs)) n cp
  rw [e6]
  obtain ⟨m1, m2, m3⟩ := mergeK_keys (F := F) (T := T) (H := H') (acc := []) (av := []) e1 rfl List.nodup_nil e2 (show DenL F T H' (([] : List (Key × D)).map (·.2)) (([] : List (Key × V)).map (·.2)) from rfl)
  obtain ⟨n7, np⟩ := n6.show (od := .dp (mergeG ps)) cp ⟨mergeK [] kvs, rfl, m1, m2, m3⟩
  exact q (.adr p) _ H' _ _ (y2 p np) n7 rfl
theorem ca_slF {lo hi : Option Int} (hv : Vl W d l) (r : R (.lst (cutD l lo hi)) W) : Ca F T (fun xs H Q => ∃ x, xs = [x] ∧ rSlL T.K x lo hi H Q) [d] W R :=
  ca_fz (ca_slL hv fun p hp => ⟨p, _, W, _, rfl, List.Perm.refl _, .lst _, r⟩)
theorem ev_revF (h : Ev F T te G W fun d W1 => ∃ l, Vl W1 d l ∧ R (.lst l.reverse) W1) : Ev F T (tRevL T.K te) G W R :=
  ev_fz (ev_revL (h.imp fun d W1 ⟨l, hv, r⟩ => ⟨l, hv, fun p hp => ⟨p, _, W1, _, rfl, List.Perm.refl _, .lst _, r⟩⟩))
theorem ev_notNV {v : V} {ta : TE} (h : Ev F T ta G W fun d W1 => d = .vl v ∧ R (.bl (!decide (v = .non))) W1) : Ev F T (tNotN ta) G W R := ev_notN (h.imp fun d W1 ⟨e, r⟩ => ⟨_, fun H u k => by
  subst e
  have k : u = v := k
  rw [k], r⟩)
end
section
variable {F : FmKit} {T : Kx} {G : Gm} {W : Om} {R : D → Om → Prop}
theorem eps_nil {acc : List (Key × D)} {Y : List (Key × D) → Om → Prop} (h : Y acc W) : EvPs F T [] G W acc Y := h
theorem eps_cons {tk tv : TE} {r : List (TE × TE)} {acc : List (Key × D)} {Y : List (Key × D) → Om → Prop} (h : Ev F T tk G W fun y W1 => Ev F T tv G W1 fun z W2 => ∃ k, y = kD k ∧ EvPs F T r G W2 (acc ++ [(k, z)]) Y) : EvPs F T ((tk, tv) :: r) G W acc Y := h
theorem exk_str {s : Str} {Z : Key → Prop} (h : Z (Sum.inr s)) : ∃ k, D.vl (.str s) = kD k ∧ Z k := ⟨_, rfl, h⟩
theorem exk_int {i : Int} {Z : Key → Prop} (h : Z (Sum.inl i)) : ∃ k, D.vl (.int i) = kD k ∧ Z k := ⟨_, rfl, h⟩
theorem dg_str {d : D} {s : Str} {ps : List (Key × D)} {z : D} {Y : D → Prop} (hv : Vd W d ps) (hg : getG ps (Sum.inr s) = some z) (r : Y z) : ∃ ps k z, Vd W d ps ∧ D.vl (.str s) = kD k ∧ getG ps k = some z ∧ Y z := ⟨ps, _, z, hv, rfl, hg, r⟩
end
theorem putG_new {α : Type} {ps : List (Key × α)} {k : Key} {z : α} (h : k ∉ ps.map (·.1)) : putG ps k z = ps ++ [(k, z)] := by
  unfold putG
  rw [if_neg]
  intro e
  rw [List.any_eq_true] at e
  obtain ⟨q, hq, e⟩ := e
  exact h (List.mem_map.mpr ⟨q, hq, of_decide_eq_true e⟩)
theorem getG_hd {α : Type} (k : Key) (z : α) (ps : List (Key × α)) : getG ((k, z) :: ps) k = some z := by
  unfold getG
  rw [List.find?_cons, decide_eq_true rfl]
  rfl
theorem getG_tl {α : Type} {k j : Key} {y : α} {ps : List (Key × α)} {r : Option α} (h : decide (j = k) = false) (e : getG ps k = r) : getG ((j, y) :: ps) k = r := by
  rw [← e]
  unfold getG
  rw [List.find?_cons, h]
theorem putG_set {α : Type} {k : Key} {z : α} : ∀ {ps : List (Key × α)} {i : Nat}, (ps.map (·.1)).Nodup → (ps.map (·.1))[i]? = some k → putG ps k z = ps.set i (k, z) := fun {ps i} hn hi => by
  have hm : ∀ (ps : List (Key × α)) (i : Nat), (ps.map (·.1)).Nodup → (ps.map (·.1))[i]? = some k → (ps.any fun q => decide (q.1 = k)) = true ∧ ps.map (fun q => if q.1 = k then (q.1, z) else q) = ps.set i (k, z) := fun ps => by
    induction ps with
    | nil => intro i _ h; simp at h
    | cons p ps ih =>
      intro i hn hi
      rw [List.map_cons, List.nodup_cons] at hn
      cases i with
      | zero =>
        have e : p.1 = k := Option.some.inj hi
        refine ⟨by rw [List.any_cons, decide_eq_true e]; rfl, ?_⟩
        rw [List.map_cons, if_pos e, List.set_cons_zero, e]
        congr 1
        have : ∀ q ∈ ps, (if q.1 = k then (q.1, z) else q) = q := fun q hq => by
          rw [if_neg]
          intro e2
          exact hn.1 (List.mem_map.mpr ⟨q, hq, e2.trans e.symm⟩)
        rw [List.map_congr_left this, List.map_id']
      | succ i =>
        rw [List.map_cons, List.getElem?_cons_succ] at hi
        obtain ⟨h1, h2⟩ := ih i hn.2 hi
        refine ⟨by rw [List.any_cons, h1, Bool.or_true], ?_⟩
        have ne : p.1 ≠ k := fun e => hn.1 (by rw [e]; exact List.mem_of_getElem? hi)
        rw [List.map_cons, if_neg ne, List.set_cons_succ, h2]
  obtain ⟨h1, h2⟩ := hm ps i hn hi
  unfold putG
  rw [if_pos h1, h2]
theorem mergeG_acc : ∀ {ps acc : List (Key × D)}, ((acc ++ ps).map (·.1)).Nodup → ps.foldl (fun acc kv => putG acc kv.1 kv.2) acc = acc ++ ps
  | [], acc, _ => by simp
  | p :: ps, acc, h => by
    rw [List.foldl_cons]
    have hn : p.1 ∉ acc.map (·.1) := fun z => by
      rw [List.map_append, List.nodup_append] at h
      exact h.2.2 _ z _ (by simp) rfl
    rw [putG_new hn, mergeG_acc (by simpa using h)]
    simp
theorem mergeG_nd {ps : List (Key × D)} (h : (ps.map (·.1)).Nodup) : mergeG ps = ps := by
  unfold mergeG
  rw [mergeG_acc (by simpa using h)]
  rfl
end N
set_option Elab.async false
set_option linter.all false
set_option maxRecDepth 100000
namespace N
open PySem PySem.Spec PyProof.Rows L2
section
variable {F : FmKit} {T : Kx} {C H H' O O' : Hp} {G : Gm} {W W' : Om} {R : D → Om → Prop} {d e : D} {l m : List D} {te : TE} {t : TT}
theorem den_bls_inv {bs : List Bool} {xs : List V} (kl : DenL F T H (bs.map D.bl) xs) : xs = bs.map V.bl := by
  rw [show bs.map D.bl = (bs.map V.bl).map D.vl by rw [List.map_map]; rfl] at kl
  exact DenL.vls_inv kl
theorem ca_any {bs : List Bool} (hv : Vl W d (bs.map D.bl)) (r : R (.bl (bs.any id)) W) : Ca F T (rAny T.K) [d] W R := ca_one fun C H O di oc ow x k Q q => by
  obtain ⟨a, xs, e, hs, kl⟩ := hv.sq ow di k
  rw [den_bls_inv kl] at hs
  exact ⟨a, bs, by rw [e], hs, q _ W H O _ r (.refl di oc ow) rfl⟩
theorem ca_all {bs : List Bool} (hv : Vl W d (bs.map D.bl)) (r : R (.bl (bs.all id)) W) : Ca F T (rAll T.K) [d] W R := ca_one fun C H O di oc ow x k Q q => by
  obtain ⟨a, xs, e, hs, kl⟩ := hv.sq ow di k
  rw [den_bls_inv kl] at hs
  exact ⟨a, bs, by rw [e], hs, q _ W H O _ r (.refl di oc ow) rfl⟩
theorem cut_all {α : Type} {xs : List α} {a b : Nat} (h : a = 0 ∧ b = xs.length) : (xs.drop a).take (b - a) = xs := by
  obtain ⟨rfl, rfl⟩ := h
  simp
/-- a slice of a tuple -/
theorem ca_slT {lo hi : Option Int} (r : R (.tup (cutD l lo hi)) W) : Ca F T (fun xs H Q => ∃ x, xs = [x] ∧ rSlA T.K x lo hi H Q) [.tup l] W R := ca_one fun C H O di oc ow x k Q q => by
  obtain ⟨a, xs, e, hs, kl⟩ := id k
  refine ⟨x, rfl, a, xs, e, Same.sqT di.same hs, fun h => ?_, fun h p hp => ?_⟩
  · subst e
    refine q (.tup (cutD l lo hi)) W H O _ r (.refl di oc ow) ?_
    have : cutD l lo hi = l := cut_all (by rw [kl.len] at h; exact h)
    rw [this]
    exact k
  · obtain ⟨n2, e2, s2⟩ := (Nx.refl (F := F) (T := T) di oc ow).newF (o := .tup (cutV xs lo hi)) hp
    rw [e2]
    exact q _ _ _ _ _ r n2 ⟨p, _, rfl, SqT.of upd_same, (kl.cut lo hi).mono s2⟩
/-- a slice of a text -/
theorem ca_slS {lo hi : Option Int} {x : Str} (hl : x.length ≤ sizeLine) (r : R (.str (cutS x lo hi)) W) : Ca F T (fun xs H Q => ∃ x, xs = [x] ∧ rSlS x lo hi H Q) [.str x] W R := cl_sc (xs := [.str x]) fun H Q k => ⟨_, rfl, x, rfl, hl, k _ r⟩
end
theorem inV_str {x : Str} : ∀ {l : List Str}, inV (.str x) (l.map V.str) = decide (x ∈ l)
  | [] => rfl
  | a :: l => by
    have ih := inV_str (x := x) (l := l)
    unfold inV at ih ⊢
    rw [List.map_cons, List.any_cons, ih]
    have : eqV (V.str a) (V.str x) = decide (x = a) := by
      show (a == x) = _
      rw [Bool.eq_iff_iff]
      simp
      exact eq_comm
    rw [this]
    rw [Bool.eq_iff_iff]
    simp
section
variable (F : FmKit) (T : Kx)
def Unr (vs : List Nat) (g : TG) (t : TT) (te : TE) (G0 : Gm) (Y : List D → Om → Prop) : List D → List D → Om → Prop
  | [], acc, W => Y acc W
  | d :: ds, acc, W => Tw F T vs g d G0 fun G2 => EvT F T t G2 W fun b W2 => if b = true then Ev F T te G2 W2 (fun z W3 => acc.length < sizeLine ∧ Unr vs g t te G0 Y ds (acc ++ [z]) W3) else Unr vs g t te G0 Y ds acc W2
def Swu (g : TG) (ts : TS) (E : En) : List D → Gm → Om → Prop
  | [], G, W => E.nx G W
  | d :: ds, G, W => Tg F T g d G fun G2 => Sw F T ts G2 W { E with nx := Swu g ts E ds, ct := Swu g ts E ds, bk := E.nx }
end
section
variable {F : FmKit} {T : Kx} {G : Gm} {W : Om} {R : D → Om → Prop} {te : TE} {t : TT} {vs : List Nat} {wi : TI} {g : TG} {ts : TS} {E : En} {d : D} {ds acc : List D} {Y : List D → Om → Prop}
theorem unr_nil (h : Y acc W) : Unr F T vs g t te G Y [] acc W := h
theorem unr_cons (h : Tw F T vs g d G fun G2 => EvT F T t G2 W fun b W2 => if b = true then Ev F T te G2 W2 (fun z W3 => acc.length < sizeLine ∧ Unr F T vs g t te G Y ds (acc ++ [z]) W3) else Unr F T vs g t te G Y ds acc W2) : Unr F T vs g t te G Y (d :: ds) acc W := h
theorem swu_nil (h : E.nx G W) : Swu F T g ts E [] G W := h
theorem swu_cons (h : Tg F T g d G fun G2 => Sw F T ts G2 W { E with nx := Swu F T g ts E ds, ct := Swu F T g ts E ds, bk := E.nx }) : Swu F T g ts E (d :: ds) G W := h
theorem acc_ok (h : acc.length ≤ 1000 := by simp) : acc.length < sizeLine := by
  have := sizeLine_eq
  omega
end
section
variable {F : FmKit} {T : Kx} {W : Om} {R : D → Om → Prop}
theorem ca_intBt {b : Bool} (hb : b = true) (h : R (.int 1) W) : Ca F T (fun xs H Q => (∃ i, xs = [.int i] ∧ Q (.int i) H) ∨ ∃ k, xs = [.bl k] ∧ Q (.int (if k then 1 else 0)) H) [.bl b] W R := ca_intB (by rw [hb]; exact h)
theorem ca_intBf {b : Bool} (hb : b = false) (h : R (.int 0) W) : Ca F T (fun xs H Q => (∃ i, xs = [.int i] ∧ Q (.int i) H) ∨ ∃ k, xs = [.bl k] ∧ Q (.int (if k then 1 else 0)) H) [.bl b] W R := ca_intB (by rw [hb]; exact h)
end
section
variable {F : FmKit} {T : Kx} {C H H' O O' : Hp} {W : Om} {R : D → Om → Prop} {S : FS} {l : List D}
theorem tyd_tup : TyD F T W (.tup l) (.type "tuple") := fun C H O di ow x k => by
  obtain ⟨a, xs, e, hs, kl⟩ := k
  subst e
  rcases Same.sqT di.same hs with (h | ⟨o, h⟩) | ⟨o, its, n, h1, h2, _⟩
  · exact .base (.tup h)
  · exact .fTuple h
  · exact .kTuple h1 h2
theorem isi_tup (r : R (.bl true) W) : Ca F T (rIsi T.K) [.tup l, .vl (.ty "tuple")] W R := ca_isi (.ty "tuple") tyd_tup (by unfold PySem.W.kitOne; rfl) r
theorem isi_fm {f : Fm} {ns : List Str} (z : CZ T.K (T.cl 0) ns) (r : R (.bl true) W) : Ca FK T (rIsi T.K) [.fm f, .adr (T.cl 0)] W R := isi_ins (.fm f) z.ins r
theorem ca_lenF {f : Fm} (h : Hand S [.fm f] W fun d' W' => (∃ n : Int, d' = .int n ∧ 0 ≤ n ∧ n < 2 ^ 63) ∧ R d' W') : Ca FK T (rLenO (T.cl 0) (spN FK T S)) [.fm f] W R := ca_lenO (.fm f) h
end
end N
set_option Elab.async false
set_option linter.all false
set_option maxRecDepth 100000
set_option maxHeartbeats 4000000
set_option Elab.async false
set_option linter.all false
set_option maxRecDepth 100000
namespace N
open PySem PySem.Spec PyProof.Rows L2 PySem.SeqAt
def rNeE (K : PySem.W.Frag) : R2 := fun x y H Q => ∃ (a b : Addr) (xs : List V), x = .ref a ∧ y = .ref b ∧ SqL K H a xs ∧ SqL K H b [] ∧ Q (.bl (!xs.isEmpty)) H
def rEqE (K : PySem.W.Frag) : R2 := fun x y H Q => ∃ (a b : Addr) (xs : List V), x = .ref a ∧ y = .ref b ∧ SqL K H a xs ∧ SqL K H b [] ∧ Q (.bl xs.isEmpty) H
theorem op_neE {X : Cx} (hu' : X.A.units + 64 < cLine) : OpR X (compareOp .NotEq) (rNeE X.K) := by
  have hu : X.A.units < cLine := Nat.lt_of_le_of_lt (Nat.le_add_right _ _) hu'
  intro pins s σ H x y v u Q I rx ry h
  obtain ⟨a, b, xs, rfl, rfl, ha, hb, q⟩ := h
  cases rx
  cases ry
  obtain ⟨its, r1, p1, _⟩ := I.list ha
  obtain ⟨its2, r2, p2, _⟩ := I.list hb
  cases r2
  cases r1 with
  | nil =>
    have := RcNeAt.lists (e := fun _ => true) p1.isList p2.isList rfl hu (fun j h1 _ => absurd h1 (Nat.not_lt_zero _)) X.prog X.w (E := X.xe) (Q := EP X pins σ Q) ⟨.bl false, H, I, rfl, q⟩
    exact this
  | cons h t =>
    exact RcNeAt.lists_lengths p1.isList p2.isList (by simp) hu X.prog X.w (E := X.xe) (Q := EP X pins σ Q) ⟨.bl true, H, I, rfl, q⟩
theorem op_eqE {X : Cx} (hu' : X.A.units + 64 < cLine) : OpR X (compareOp .Eq) (rEqE X.K) := by
  have hu : X.A.units < cLine := Nat.lt_of_le_of_lt (Nat.le_add_right _ _) hu'
  intro pins s σ H x y v u Q I rx ry h
  obtain ⟨a, b, xs, rfl, rfl, ha, hb, q⟩ := h
  cases rx
  cases ry
  obtain ⟨its, r1, p1, _⟩ := I.list ha
  obtain ⟨its2, r2, p2, _⟩ := I.list hb
  cases r2
  cases r1 with
  | nil => exact eq_listAt (e := fun _ => true) p1.isList p2.isList rfl hu (fun j h1 _ => absurd h1 (Nat.not_lt_zero _)) ⟨.bl true, H, I, rfl, q⟩
  | cons h t => exact eq_list_lengthsAt p1.isList p2.isList (by simp) hu ⟨.bl false, H, I, rfl, q⟩
section
variable {F : FmKit} {T : Kx} {C H H' O O' : Hp} {G : Gm} {W W' : Om} {R : D → Om → Prop} {d e : D} {l m : List D} {te : TE} {t : TT} {tr : TA}
theorem den_empty {l : List D} {xs : List V} (kl : DenL F T H l xs) : xs.isEmpty = l.isEmpty := by
  have := kl.len
  cases l <;> cases xs <;> simp at this ⊢
theorem bo_neE (h1 : Vl W d l) (h2 : Vl W e []) (r : R (.bl (!l.isEmpty)) W) : Bo F T (rNeE T.K) d e W R := fun C H O di oc ow x y hx hy Q k => by
  obtain ⟨a, xs, ea, ha, ka⟩ := h1.sq ow di hx
  obtain ⟨b, ys, eb, hb, kb⟩ := h2.sq ow di hy
  have kb : ys = [] := kb
  subst kb
  refine ⟨a, b, xs, ea, eb, ha, hb, ?_⟩
  rw [den_empty ka]
  exact k _ W H O _ r (.refl di oc ow) rfl
theorem bo_eqE (h1 : Vl W d l) (h2 : Vl W e []) (r : R (.bl l.isEmpty) W) : Bo F T (rEqE T.K) d e W R := fun C H O di oc ow x y hx hy Q k => by
  obtain ⟨a, xs, ea, ha, ka⟩ := h1.sq ow di hx
  obtain ⟨b, ys, eb, hb, kb⟩ := h2.sq ow di hy
  have kb : ys = [] := kb
  subst kb
  refine ⟨a, b, xs, ea, eb, ha, hb, ?_⟩
  rw [den_empty ka]
  exact k _ W H O _ r (.refl di oc ow) rfl
end
end N
set_option Elab.async false
set_option linter.all false
set_option maxRecDepth 100000
namespace N
open PySem PySem.Spec PyProof.Rows L2
open C8 (Cal Met Mak InsC pe_c pe_mt pe_mt0 pe_mk)
section
variable {X : Cx} {k j : Nat} {x m : Str} {C : Addr} {sp : Sp} {e o : Expr} {es : List Expr} {t ta : TA} {p pos apos : Pos}
theorem kb1_of {K : PySem.W.Frag} {x qual : Str} {st : Stmt} {f : Addr} {fd : FuncData} {ps ks : List Str} {g : List Value → List Value → List Value} {gV : List V → List V → List V} (Fn : Fun K x qual st f fd)
    (h : ∀ (kV doc pm : Value) (an : Option Addr) (cdv ct u : Value) (ws : List Value), ws.length = ks.length → bindArgs (PySem.W.fnOf x qual (defArgs st) (defBody st) (defScope st) .none kV doc pm an cdv ct) ⟨[u], ks.zip ws⟩ = pure (ps.zip (g [u] ws)))
    (rel : ∀ {vs : List V} {us : List Value} {zs : List V} {ws : List Value}, Vals vs us → Vals zs ws → Vals (gV vs zs) (g us ws)) : KBn K fd ps 1 ks g gV := by
  obtain ⟨oc, od, kV, doc, pm, an, cdv, ct, osl, rfl, lk, hcd⟩ := Fn.ex
  refine ⟨fun s us ws _ h1 h2 => ?_, rel⟩
  obtain ⟨u, rfl⟩ : ∃ u, us = [u] := List.length_eq_one_iff.mp h1
  exact .of_eq (h kV doc pm an cdv ct u ws h2)
end
section
variable {F : FmKit} {T : Kx} {C H H' O O' : Hp} {G : Gm} {W W' : Om} {R : D → Om → Prop} {σ : L2.St} {d e : D} {l m : List D} {te ta tb tx : TE} {t : TT} {tr tk : TA} {S : FS}
/-- *e among the arguments -/
theorem ea_star {R : List D → Om → Prop} (h : Ev F T te G W fun d W1 => ∃ l, (Vl W1 d l ∨ d = .tup l) ∧ EvA F T tr G W1 fun ds W2 => R (l ++ ds) W2) : EvA F T (StX.tStar T.K te tr) G W R := fun C H O σ w Q q =>
  h C H O σ w _ fun d W1 H1 O1 x ⟨l, hv, ha⟩ n1 k1 => by
    have : ∃ p xs, x = V.ref p ∧ (SqT T.K (ov O1 H1) p xs ∨ SqL T.K (ov O1 H1) p xs) ∧ DenL F T H1 l xs := by
      rcases hv with hv | rfl
      · obtain ⟨p, xs, e, hs, kl⟩ := hv.sq n1.own n1.dis k1
        exact ⟨p, xs, e, .inr hs, kl⟩
      · obtain ⟨p, xs, e, hs, kl⟩ := k1
        exact ⟨p, xs, e, .inl (Same.sqT n1.dis.same hs), kl⟩
    obtain ⟨p, xs, e, hs, kl⟩ := this
    refine ⟨p, xs, e, hs, ha C H1 O1 σ (w.step n1) _ fun ds W2 H2 O2 vs r n2 k2 => ?_⟩
    exact q _ W2 H2 O2 _ r (n1.trans n2) ((kl.mono n2.ext).app k2)
/-- dict(pairs) -/
def rDictP (K : PySem.W.Frag) : List V → Hp → VK → Prop := fun xs H Q => ∃ (a : Addr) (ps : List Addr) (kvs : List (Key × V)), xs = [.ref a] ∧ SqL K H a (ps.map V.ref) ∧ Paired (fun p kv => SqT K H p [kV kv.1, kv.2]) ps kvs ∧ ∀ p, H p = none → Q (.ref p) (upd H p (.dK (mergeK [] kvs)))
theorem den_pairs (di : Dis O H) : ∀ {ps : List (Key × D)} {xs : List V}, DenL F T H (ps.map fun p => .tup [kD p.1, p.2]) xs → ∃ (as : List Addr) (kvs : List (Key × V)), xs = as.map V.ref ∧ Paired (fun p kv => SqT T.K (ov O H) p [kV kv.1, kv.2]) as kvs ∧ kvs.map (·.1) = ps.map (·.1) ∧ DenL F T H (ps.map (·.2)) (kvs.map (·.2))
  | [], xs, k => by
    have k : xs = [] := k
    subst k
    exact ⟨[], [], rfl, .nil, rfl, rfl⟩
  | (key, z) :: ps, xs, ⟨v, r, e, ⟨a, us, e1, hs, k1⟩, k2⟩ => by
    obtain ⟨as, kvs, e2, h1, h2, h3⟩ := den_pairs di (ps := ps) k2
    obtain ⟨u1, r1, e3, q1, u2, r2, e4, q2, e5⟩ := k1
    have e5 : r2 = [] := e5
    have q1 : u1 = kV key := q1
    subst e5 e4 e3 e1 e2 q1 e
    exact ⟨a :: as, (key, u2) :: kvs, rfl, .cons (Same.sqT di.same hs) h1, by simp [h2], ⟨u2, _, rfl, q2, h3⟩⟩
theorem ca_dictP {ps : List (Key × D)} (hv : Vl W d (ps.map fun p => .tup [kD p.1, p.2])) (h : ∀ p, p ∉ akeys W → R (.adr p) ((p, .dp (mergeG ps)) :: W)) : Ca F T (rDictP T.K) [d] W R := ca_one fun C H O di oc ow x hx Q q => by
  obtain ⟨a, xs, e, ha, ka⟩ := hv.sq ow di hx
  obtain ⟨as, kvs, e2, h1, h2, h3⟩ := den_pairs di ka
  subst e2
  refine ⟨a, as, kvs, by rw [e], ha, h1, fun p hp => ?_⟩
  obtain ⟨m1, m2, m3⟩ := mergeK_keys (F := F) (T := T) (H := H) (acc := []) (av := []) h2 rfl List.nodup_nil h3 (show DenL F T H (([] : List (Key × D)).map (·.2)) (([] : List (Key × V)).map (·.2)) from rfl)
  obtain ⟨n2, e3, np⟩ := (Nx.refl di oc ow).newO (od := .dp (mergeG ps)) (o := .dK (mergeK [] kvs)) hp ⟨mergeK [] kvs, rfl, m1, m2, m3⟩
  rw [e3]
  exact q (.adr p) _ _ _ _ (h p np) n2 rfl
theorem ca_dictPF {ps : List (Key × D)} (hv : Vl W d (ps.map fun p => .tup [kD p.1, p.2])) (h : R (.dp (mergeG ps)) W) : Ca F T (rDictP T.K) [d] W R :=
  ca_fz (ca_dictP hv fun p hp => ⟨p, _, W, _, rfl, List.Perm.refl _, .dct _ _, h⟩)
end
section
variable {X : Cx}
theorem cr_dictP (hcalm : X.calm = true) : CallR X (.type "dict") (rDictP X.K) := call_dictP hcalm
end
section
variable {F : FmKit} {T : Kx} {G : Gm} {W : Om} {R : D → Om → Prop}
/-- {k: e, ..}, frozen at once -/
theorem ev_dispF {trs : List (TE × TE)} (h : EvPs F T trs G W [] fun ps W' => ps.length ≤ 15 ∧ R (.dp (mergeG ps)) W') : Ev F T (tDisp trs) G W R := by
  have up : ∀ (trs : List (TE × TE)) (W : Om) (acc : List (Key × D)) (Y Z : List (Key × D) → Om → Prop), (∀ ps W', Y ps W' → Z ps W') → EvPs F T trs G W acc Y → EvPs F T trs G W acc Z := by
    intro trs
    induction trs with
    | nil => exact fun W acc Y Z i h => i _ _ h
    | cons t trs ih => exact fun W acc Y Z i h => Ev.imp h fun y W1 h1 => Ev.imp h1 fun z W2 ⟨k, e, h2⟩ => ⟨k, e, ih _ _ _ _ i h2⟩
  exact ev_fz (ev_disp (up _ _ _ _ _ (fun ps W' ⟨h1, h2⟩ => ⟨h1, fun p hp => ⟨p, _, W', _, rfl, List.Perm.refl _, .dct _ _, h2⟩⟩) h))
end
end N
set_option Elab.async false
set_option linter.all false
set_option maxRecDepth 100000
set_option maxHeartbeats 1000000
namespace PySem
open Sem (wp)
/-- a zip that stands, strict -/
abbrev StrictZip (hp : Heap) (z ins held : Addr) (v : Value) : Prop := hp.get? z = some { cls := .type "zip", data := .fields #[v, .bool false, .bool true, .ref ins, .ref held] }
section
variable {prog : Program} {w : World} {A : Around} {E : Value → Shared → Prop} {s : Shared} {z ins held j1 j2 : Addr} {f1 f2 : List Addr} {n i : Nat} {P1 P2 P : Nat → Value → Prop} {S1 S2 St : Nat → Heap → Prop} {u1 u2 : Value} {it : Addr} {fp : List Addr}
theorem orEnd_more {Q : Option Value → Shared → Prop} (D : Draws prog w A it fp n P St) (hi : i < n) (st : St i s.heap) (q : ∀ x hp tk, P i x → St (i + 1) hp → Heap.SameBut it s.heap hp → Q (some x) { s with heap := hp, toks := tk }) :
    wpAny (model prog w) A (Builtin.SmallTypes.nextOrEnd (.ref it)) Q E s :=
  wpAny_bind (wpAny_attempt (D.item i s _ _ hi st fun x hp tk a b c => wpAny_pure (q x hp tk a b c)))
theorem orEnd_none {Q : Option Value → Shared → Prop} (D : Draws prog w A it fp n P St) (st : St n s.heap) (q : ∀ hp, Heap.ExtBut it s.heap hp → Q none { s with heap := hp }) :
    wpAny (model prog w) A (Builtin.SmallTypes.nextOrEnd (.ref it)) Q E s :=
  wpAny_bind (wpAny_attempt (D.done s _ _ st fun hp e k ⟨o, ho, hc⟩ => wpAny_bind (wpAny_isInstance (T := "StopIteration") (b := true) ⟨o, ho, hc⟩ isSubtype_stop (wpAny_pure (q hp k)))))
theorem strict_more {Q : Value → Shared → Prop} (S : ZipSep2 z ins held j1 j2 f1 f2) (D1 : Draws prog w A j1 f1 n P1 S1) (D2 : Draws prog w A j2 f2 n P2 S2)
    (hz : StrictZip s.heap z ins held .none) (hI : IsTupOf2 s.heap ins (.ref j1) (.ref j2)) (hO : IsTupOf2 s.heap held u1 u2) (k1 : S1 i s.heap) (k2 : S2 i s.heap) (hi : i < n)
    (q : ∀ x y hp tk, P1 i x → P2 i y → StrictZip hp z ins held (rawInt s.heap.objs.size) → IsTupOf2 hp held x y → S1 (i + 1) hp → S2 (i + 1) hp → IsTupOf2 hp s.heap.objs.size x y → hp.objs.size = s.heap.objs.size + 1 →
      (∀ c o, c ∉ [z, held, j1, j2] → s.heap.get? c = some o → hp.get? c = some o) → Q (.ref s.heap.objs.size) { s with heap := hp, toks := tk }) :
    wpAny (model prog w) A (Builtin.«zip.__next__» ⟨[.ref z], []⟩) (fun fin s' => ∃ v, fin = .done (.ret v) ∧ Q v s') E s := by
  obtain ⟨h0, g, d, t0, os⟩ := s
  simp only at hz hI hO k1 k2 q
  have af : ∀ {k : Nat} {x : Value} {Q : Value → Shared → Prop} {E : Value → Shared → Prop}, (#[Value.none, .bool false, .bool true, .ref ins, .ref held] : Array Value)[k]? = some x → Q x ⟨h0, g, d, t0, os⟩ → wpAny (model prog w) A (field (.ref z) k) Q E ⟨h0, g, d, t0, os⟩ := fun e q => wpAny_field hz rfl e q
  have ast : ∀ {Q : Unit → Shared → Prop} {E : Value → Shared → Prop}, (∀ h1, StrictZip h1 z ins held .ellipsis → Heap.SameBut z h0 h1 → Q () ⟨h1, g, d, t0, os⟩) → wpAny (model prog w) A (setField (.ref z) 0 .ellipsis) Q E ⟨h0, g, d, t0, os⟩ := fun q => wpAny_setField_rec hz (by simp) fun h1 a b => q h1 a b
  wp_walk using wpAny_seqItems hI rfl, ast, wpAny_onRaise
  intro h1 z1 b1
  have r1 : ∀ {Q : Option Value → Shared → Prop} {E : Value → Shared → Prop}, (∀ x hp tk, P1 i x → S1 (i + 1) hp → Heap.SameBut j1 h1 hp → Q (some x) ⟨hp, g, d, tk, os⟩) → wpAny (model prog w) A (Builtin.SmallTypes.nextOrEnd (.ref j1)) Q E ⟨h1, g, d, t0, os⟩ := fun q => orEnd_more D1 hi (D1.over k1 b1 S.zf1) q
  wp_walk using wpAny_onRaise, r1
  intro x h2 t2 px k1 b2
  have o2 : IsTupOf2 h2 held u1 u2 := b2.extBut _ _ S.Ti1 (b1.extBut _ _ S.TOz hO)
  have r2 : ∀ {k : Nat} {x : Value} {Q : Unit → Shared → Prop} {E : Value → Shared → Prop}, (∀ hp, hp.get? held = some { cls := .type "tuple", data := .seq ((#[u1, u2] : Array Value).setIfInBounds k x) } → Heap.SameBut held h2 hp → Q () ⟨hp, g, d, t2, os⟩) → wpAny (model prog w) A (updateSeq held (·.setIfInBounds k x)) Q E ⟨h2, g, d, t2, os⟩ := fun q => updateSeq_IsTupOf2 o2 q
  wp_walk using wpAny_seqItems o2 rfl, r2
  intro h3 o3 b3
  replace o3 : IsTupOf2 h3 held x u2 := o3
  have r3 : ∀ {Q : Option Value → Shared → Prop} {E : Value → Shared → Prop}, (∀ x hp tk, P2 i x → S2 (i + 1) hp → Heap.SameBut j2 h3 hp → Q (some x) ⟨hp, g, d, tk, os⟩) → wpAny (model prog w) A (Builtin.SmallTypes.nextOrEnd (.ref j2)) Q E ⟨h3, g, d, t2, os⟩ := fun q => orEnd_more D2 hi (D2.over (D2.over (D2.over k2 b1 S.zf2) b2 S.sep1_2) b3 S.Tf2) q
  wp_walk using wpAny_onRaise, r3
  intro y h4 t4 py k2 b4
  have o4 : IsTupOf2 h4 held x u2 := b4.extBut _ _ S.Ti2 o3
  have r4 : ∀ {k : Nat} {v : Value} {Q : Unit → Shared → Prop} {E : Value → Shared → Prop}, (∀ hp, hp.get? held = some { cls := .type "tuple", data := .seq ((#[x, u2] : Array Value).setIfInBounds k v) } → Heap.SameBut held h4 hp → Q () ⟨hp, g, d, t4, os⟩) → wpAny (model prog w) A (updateSeq held (·.setIfInBounds k v)) Q E ⟨h4, g, d, t4, os⟩ := fun q => updateSeq_IsTupOf2 o4 q
  wp_walk using wpAny_seqItems o4 rfl, r4
  intro h5 o5 b5
  replace o5 : IsTupOf2 h5 held x y := o5
  have sz : h5.objs.size = h0.objs.size := by rw [b5.1, b4.1, b3.1, b2.1, b1.1]
  have z5 : StrictZip h5 z ins held .ellipsis := b5.extBut _ _ S.TOz.symm (b4.extBut _ _ S.zi2 (b3.extBut _ _ S.TOz.symm (b2.extBut _ _ S.zi1 z1)))
  have lt : z < h5.objs.size := Heap.lt_size z5
  have z6 : StrictZip (h5.push { cls := .type "tuple", data := .seq #[x, y] }) z ins held .ellipsis := Heap.get?_push_of_some _ z5
  have r6 : ∀ {hp : Heap} {f : Value} {v : Value} {Q : Unit → Shared → Prop} {E : Value → Shared → Prop}, StrictZip hp z ins held f → (∀ hq, StrictZip hq z ins held v → Heap.SameBut z hp hq → Q () ⟨hq, g, d, t4, os⟩) → wpAny (model prog w) A (setField (.ref z) 0 v) Q E ⟨hp, g, d, t4, os⟩ := fun a q => wpAny_setField_rec a (by simp) fun hq b c => q hq b c
  have r7 : ∀ {hp : Heap} {f : Value} {Q : Unit → Shared → Prop} {E : Value → Shared → Prop}, StrictZip hp z ins held f → (∀ hq, StrictZip hq z ins held f → Heap.SameBut z hp hq → Q () ⟨hq, g, d, t4, os⟩) → wpAny (model prog w) A (setField (.ref z) 1 (.bool false)) Q E ⟨hp, g, d, t4, os⟩ := fun a q => wpAny_setField_rec a (by simp) fun hq b c => q hq b c
  wp_walk using wpAny_seqItems o5 rfl, r6 z6
  intro h7 z7 b7
  refine r7 z7 fun h8 z8 b8 => wpAny_pure ⟨_, rfl, ?_⟩
  have up : ∀ c o, c ≠ z → h5.get? c = some o → h8.get? c = some o := fun c o ne e => b8.extBut _ _ ne (b7.extBut _ _ ne (Heap.get?_push_of_some _ e))
  have new : IsTupOf2 h8 h5.objs.size x y := b8.extBut _ _ (Nat.ne_of_gt lt) (b7.extBut _ _ (Nat.ne_of_gt lt) (Heap.get?_push_size _ rfl))
  have e8 : h8.objs.size = h5.objs.size + 1 := by rw [b8.1, b7.1, Heap.size_push]
  rw [sz] at z8 new e8
  have a1 : S1 (i + 1) h8 := D1.frame _ _ _ (D1.over (D1.over (D1.over k1 b3 S.Tf1) b4 S.sep2_1) b5 S.Tf1) fun b hb o e => up b o (fun q => S.zf1 (q ▸ hb)) e
  have a2 : S2 (i + 1) h8 := D2.frame _ _ _ (D2.over k2 b5 S.Tf2) fun b hb o e => up b o (fun q => S.zf2 (q ▸ hb)) e
  rw [sz]
  refine q x y h8 t4 px py z8 (up _ _ S.TOz o5) a1 a2 new e8 fun c o nc e => ?_
  simp only [List.mem_cons, List.not_mem_nil, or_false, not_or] at nc
  obtain ⟨cz, cT, c1, c2⟩ := nc
  exact up c o cz (b5.extBut _ _ cT (b4.extBut _ _ c2 (b3.extBut _ _ cT (b2.extBut _ _ c1 (b1.extBut _ _ cz e)))))
theorem strict_none {Q : Fin → Shared → Prop} (hh : A.handled = none) (S : ZipSep2 z ins held j1 j2 f1 f2) (D1 : Draws prog w A j1 f1 n P1 S1) (D2 : Draws prog w A j2 f2 n P2 S2)
    (hz : StrictZip s.heap z ins held .none) (hI : IsTupOf2 s.heap ins (.ref j1) (.ref j2)) (k1 : S1 n s.heap) (k2 : S2 n s.heap)
    (q : ∀ hp tk e, (∀ c o, c ∉ [z, held, j1, j2] → s.heap.get? c = some o → hp.get? c = some o) → (∃ o, hp.get? e = some o ∧ o.cls = .type "StopIteration") → E (.ref e) { s with heap := hp, toks := tk }) :
    wpAny (model prog w) A (Builtin.«zip.__next__» ⟨[.ref z], []⟩) Q E s := by
  obtain ⟨h0, g, d, t0, os⟩ := s
  simp only at hz hI k1 k2 q
  have ast : ∀ {hp : Heap} {v f : Value} {Q : Unit → Shared → Prop} {E : Value → Shared → Prop}, StrictZip hp z ins held f → (∀ h1, StrictZip h1 z ins held v → Heap.SameBut z hp h1 → Q () ⟨h1, g, d, t0, os⟩) → wpAny (model prog w) A (setField (.ref z) 0 v) Q E ⟨hp, g, d, t0, os⟩ := fun a q => wpAny_setField_rec a (by simp) fun h1 a b => q h1 a b
  wp_walk using wpAny_seqItems hI rfl, ast hz, wpAny_onRaise
  intro h1 z1 b1
  have r1 : ∀ {Q : Option Value → Shared → Prop} {E : Value → Shared → Prop}, (∀ hp, Heap.ExtBut j1 h1 hp → Q none ⟨hp, g, d, t0, os⟩) → wpAny (model prog w) A (Builtin.SmallTypes.nextOrEnd (.ref j1)) Q E ⟨h1, g, d, t0, os⟩ := fun q => orEnd_none D1 (D1.over k1 b1 S.zf1) q
  wp_walk using wpAny_onRaise, r1
  intro h2 b2
  have z2 : StrictZip h2 z ins held .ellipsis := b2 _ _ S.zi1 z1
  wp_walk using ast z2
  intro h3 z3 b3
  have r2 : ∀ {Q : Option Value → Shared → Prop} {E : Value → Shared → Prop}, (∀ hp, Heap.ExtBut j2 h3 hp → Q none ⟨hp, g, d, t0, os⟩) → wpAny (model prog w) A (Builtin.SmallTypes.nextOrEnd (.ref j2)) Q E ⟨h3, g, d, t0, os⟩ := fun q => orEnd_none D2 (D2.over (D2.frame _ _ _ (D2.over k2 b1 S.zf2) fun b hb o e => b2 b o (fun x => S.sep1_2 (x ▸ hb)) e) b3 S.zf2) q
  wp_walk using r2
  intro h4 b4
  wp_walk
  simp only [raiseNew]
  refine wpAny_bind (wpAny_handled ?_)
  rw [hh]
  refine wpAny_bind (wpAny_pure (wpAny_throw ?_))
  refine q _ _ _ (fun c o nc e => ?_) ⟨_, Heap.get?_push_size _ rfl, rfl⟩
  simp only [List.mem_cons, List.not_mem_nil, or_false, not_or] at nc
  obtain ⟨cz, cT, c1, c2⟩ := nc
  exact Heap.get?_push_of_some _ (Heap.get?_push_of_some _ (b4 _ _ c2 (b3.extBut _ _ cz (b2 _ _ c1 (b1.extBut _ _ cz e)))))
theorem next_more {Q : Option Value → Shared → Prop} (S : ZipSep2 z ins held j1 j2 f1 f2) (D1 : Draws prog w A.in1 j1 f1 n P1 S1) (D2 : Draws prog w A.in1 j2 f2 n P2 S2)
    (hz : StrictZip s.heap z ins held .none) (hI : IsTupOf2 s.heap ins (.ref j1) (.ref j2)) (hO : IsTupOf2 s.heap held u1 u2) (k1 : S1 i s.heap) (k2 : S2 i s.heap) (hi : i < n)
    (q : ∀ x y hp tk, P1 i x → P2 i y → StrictZip hp z ins held (rawInt s.heap.objs.size) → IsTupOf2 hp held x y → S1 (i + 1) hp → S2 (i + 1) hp → IsTupOf2 hp s.heap.objs.size x y → hp.objs.size = s.heap.objs.size + 1 →
      (∀ c o, c ∉ [z, held, j1, j2] → s.heap.get? c = some o → hp.get? c = some o) → Q (some (.ref s.heap.objs.size)) { s with heap := hp, toks := tk }) : wpAny (model prog w) A (pyNext (.ref z)) Q E s :=
  have ty : s.TypeIs (.ref z) "zip" := ⟨_, hz, rfl⟩
  wpAny_bind (wpAny_attempt (wpAny_callSpecial?_slot (name := Str.ofString "__next__") ty F.slot_zip_next (wpAny_call_entry F.slot_zip_next ty F.entry_zip_next
    (strict_more S D1 D2 hz hI hO k1 k2 hi fun x y hp tk a b c d e f g h l => wpAny_pure (q x y hp tk a b c d e f g h l)) (F.args_zip_next_1 _))))
theorem next_none {Q : Option Value → Shared → Prop} (hh : A.handled = none) (S : ZipSep2 z ins held j1 j2 f1 f2) (D1 : Draws prog w A.in1 j1 f1 n P1 S1) (D2 : Draws prog w A.in1 j2 f2 n P2 S2)
    (hz : StrictZip s.heap z ins held .none) (hI : IsTupOf2 s.heap ins (.ref j1) (.ref j2)) (k1 : S1 n s.heap) (k2 : S2 n s.heap)
    (q : ∀ hp tk, (∀ c o, c ∉ [z, held, j1, j2] → s.heap.get? c = some o → hp.get? c = some o) → Q none { s with heap := hp, toks := tk }) : wpAny (model prog w) A (pyNext (.ref z)) Q E s :=
  have ty : s.TypeIs (.ref z) "zip" := ⟨_, hz, rfl⟩
  wpAny_bind (wpAny_attempt (wpAny_callSpecial?_slot (name := Str.ofString "__next__") ty F.slot_zip_next (wpAny_call_entry F.slot_zip_next ty F.entry_zip_next
    (strict_none (show A.in1.handled = none from hh) S D1 D2 hz hI k1 k2 fun hp tk e k ⟨o, ho, hc⟩ => wpAny_bind (wpAny_isInstance (T := "StopIteration") (b := true) ⟨o, ho, hc⟩ isSubtype_stop (wpAny_pure (q _ _ k)))) (F.args_zip_next_1 _))))
theorem go_strict {elts : List Expr} {kk : Nat} {pos : Pos} {T : Addr} {Q : Unit → Shared → Prop} (hz : StrictZip s.heap z ins held (rawInt T)) (q : ∀ hp, StrictZip hp z ins held .none → Heap.SameBut z s.heap hp → Q () { s with heap := hp }) :
    wpAny (model prog w) A (letOwnedTupleGo (.Tuple elts kk pos) (.ref z) (.ref T)) Q E s := by
  unfold letOwnedTupleGo
  refine wpAny_bind (wpAny_load hz ?_)
  refine wpAny_ite_true (by simp) ?_
  exact wpAny_bind (wpAny_rule (wpAny_setField_rec hz (by simp) fun hp a b => q hp a b))
theorem iter_strict {v : Value} {Q : Value → Shared → Prop} (hz : StrictZip s.heap z ins held v) (q : Q (.ref z) s) : wpAny (model prog w) A (pyIter (.ref z)) Q E s :=
  have ty : s.TypeIs (.ref z) "zip" := ⟨_, hz, rfl⟩
  wpAny_pyIter_slot ty F.slot_zip_iter (wpAny_call_entry F.slot_zip_iter ty F.entry_zip_iter (wpAny_pure ⟨_, rfl, "zip", _, ty, F.slot_zip_next.lookup, q⟩) (F.args_zip_iter_1 _))
end
end PySem
set_option Elab.async false
set_option linter.all false
set_option maxRecDepth 100000
set_option maxHeartbeats 1000000
namespace N
open PySem PySem.Spec PyProof.Rows L2
open C8 (Cal Met Mak InsC pe_c pe_mt pe_mt0 pe_mk)
inductive Kd
  | lst (a : Addr)
  | tup (a : Addr)
  | txt (x : Str)
def Kd.v : Kd → V
  | .lst a => .ref a
  | .tup a => .ref a
  | .txt x => .str x
def Kd.src (K : PySem.W.Frag) (H : Hp) : Kd → List V → Prop
  | .lst a, xs => SqL K H a xs
  | .tup a, xs => SqT K H a xs
  | .txt x, xs => xs = x.cps.toList.map fun c => V.str ⟨#[c]⟩
def Kd.at (k : Kd) (t : Tok) (it : Addr) (i : Nat) (h : Heap) : Prop := match k with
  | .lst a => h.IsListIter it a i
  | .tup a => h.IsTupleIter it a i
  | .txt x => h.IsStrIter it (strIterType x) x t i
def Kd.low (k : Kd) (b : Nat) : Prop := match k with
  | .lst a => a < b
  | .tup a => a < b
  | .txt _ => True
theorem Kd.keep {k : Kd} {t : Tok} {it : Addr} {i : Nat} {h h' : Heap} (s : k.at t it i h) (e : ∀ o, h.get? it = some o → h'.get? it = some o) : k.at t it i h' := by
  cases k with
  | lst a => exact Heap.IsListIter.at s e
  | tup a => exact Heap.IsTupleIter.at s e
  | txt x =>
    obtain ⟨o, ho, r⟩ := s
    exact ⟨o, e o ho, r⟩
theorem Kd.obj {k : Kd} {t : Tok} {it : Addr} {i : Nat} {h : Heap} (s : k.at t it i h) : ∃ o, h.get? it = some o ∧ ∀ v, o.data ≠ .cell v := by
  cases k with
  | lst a =>
    obtain ⟨o, e, _, d⟩ := s
    exact ⟨o, e, fun v q => by rw [d] at q; cases q⟩
  | tup a =>
    obtain ⟨o, e, _, d⟩ := s
    exact ⟨o, e, fun v q => by rw [d] at q; cases q⟩
  | txt x =>
    obtain ⟨o, e, _, d⟩ := s
    exact ⟨o, e, fun v q => by rw [d] at q; cases q⟩
section
variable {X : Cx} {pins : List (Addr × Obj)} {σ : L2.St} {H : Hp} {s : Shared}
theorem Kd.inj {k : Kd} {xs ys : List V} (I : Inv X pins σ H s) (h : k.src X.K H xs) (h' : k.src X.K H ys) : xs = ys := by
  cases k with
  | lst a => exact I.list_inj h h'
  | tup a => exact I.tuple_inj h h'
  | txt x => exact Eq.trans h (Eq.symm h')
/-- the iterator over a source, as it stands now -/
theorem Kd.draws {k : Kd} {t : Tok} {it : Addr} {xs : List V} (I : Inv X pins σ H s) (hc : X.calm = true) (hs : k.src X.K H xs) {b : Nat} (hl : k.low b) (hb : b ≤ it) :
    ∃ (fp : List Addr) (P : Nat → Value → Prop) (St : Nat → Heap → Prop), Draws X.prog X.w X.A.in1 it fp xs.length P St ∧ it ∈ fp ∧ (∀ c ∈ fp, c = it ∨ c < b) ∧ (∀ i, k.at t it i s.heap → St i s.heap) ∧ (∀ i h, St i h → k.at t it i h) ∧ ∀ i v, P i v → ∃ x, xs[i]? = some x ∧ RelV x v := by
  have hh : X.A.in1.handled = none := I.ok.hd hc
  cases k with
  | lst a =>
    obtain ⟨its, rv, p, _⟩ := I.list hs
    have ne : a ≠ it := Nat.ne_of_lt (Nat.lt_of_lt_of_le hl hb)
    have D := Draws.list (prog := X.prog) (w := X.w) hh it a ne its.toArray
    have e : its.toArray.size = xs.length := by simp [rv.length]
    rw [e] at D
    refine ⟨_, _, _, D, by simp, fun c hc => ?_, fun i st => ⟨st, p.isList⟩, fun i h st => st.1, fun i v h => ?_⟩
    · simp at hc
      rcases hc with e | e
      · exact .inl e
      · subst e
        exact .inr hl
    · have h : its[i]? = some v := by simpa using h
      have hi : i < xs.length := by
        have := (List.getElem?_eq_some_iff.mp h).1
        rw [rv.length]
        exact this
      obtain ⟨u, hu, ru⟩ := rv.get (List.getElem?_eq_getElem hi)
      rw [h] at hu
      cases hu
      exact ⟨_, List.getElem?_eq_getElem hi, ru⟩
  | tup a =>
    obtain ⟨its, rv, p, _⟩ := I.tuple hs
    have ne : a ≠ it := Nat.ne_of_lt (Nat.lt_of_lt_of_le hl hb)
    have D := Draws.tuple (prog := X.prog) (w := X.w) hh it a ne its.toArray
    have e : its.toArray.size = xs.length := by simp [rv.length]
    rw [e] at D
    refine ⟨_, _, _, D, by simp, fun c hc => ?_, fun i st => ⟨st, p⟩, fun i h st => st.1, fun i v h => ?_⟩
    · simp at hc
      rcases hc with e | e
      · exact .inl e
      · subst e
        exact .inr hl
    · have h : its[i]? = some v := by simpa using h
      have hi : i < xs.length := by
        have := (List.getElem?_eq_some_iff.mp h).1
        rw [rv.length]
        exact this
      obtain ⟨u, hu, ru⟩ := rv.get (List.getElem?_eq_getElem hi)
      rw [h] at hu
      cases hu
      exact ⟨_, List.getElem?_eq_getElem hi, ru⟩
  | txt x =>
    have hs : xs = x.cps.toList.map fun c => V.str ⟨#[c]⟩ := hs
    subst hs
    have D := Draws.text (prog := X.prog) (w := X.w) hh it x t
    have e : (x.cps.toList.map fun c => V.str ⟨#[c]⟩).length = x.cps.size := by simp
    rw [e]
    refine ⟨_, _, _, D, by simp, fun c hc => .inl (by simpa using hc), fun i st => st, fun i h st => st, fun i v ⟨c, u, h1, h2⟩ => ?_⟩
    refine ⟨.str ⟨#[c]⟩, ?_, u, h2⟩
    rw [List.getElem?_map]
    have : x.cps.toList[i]? = some c := by simpa using h1
    rw [this]
    rfl
end
def ZAt (strict : Bool) (h : Heap) (z ins held : Addr) (v : Value) : Prop := if strict then StrictZip h z ins held v else IsZip h z ins held v
def ItzK (K : PySem.W.Frag) (k1 k2 : Kd) (strict : Bool) : It :=
  ⟨fun i H => ∃ xs ys : List V, k1.src K H xs ∧ k2.src K H ys ∧ i < xs.length ∧ i < ys.length ∧ (strict = true → xs.length = ys.length),
    fun i H v H' => ∃ T x y, v = .ref T ∧ H T = none ∧ H' = upd H T (.tup [x, y]) ∧ (∀ xs, k1.src K H xs → xs[i]? = some x) ∧ ∀ ys, k2.src K H ys → ys[i]? = some y,
    fun i H => ∃ xs ys : List V, k1.src K H xs ∧ k2.src K H ys ∧ i ≤ xs.length ∧ i ≤ ys.length ∧ (i = xs.length ∨ i = ys.length) ∧ (strict = true → xs.length = ys.length)⟩
theorem ne_add {b c d : Nat} (h : c ≠ d) : b + c ≠ b + d := by omega
theorem zno {b k : Nat} (h : k ≠ 0) (_ : 0 ≠ k) : ¬ (b + k = b ∨ b + k < b) := by omega
theorem zno2 {b k : Nat} (h : k ≠ 1) : ¬ (b + k = b + 1 ∨ b + k < b) := by omega
theorem zsep {b : Nat} {f1 f2 : List Addr} (m1 : b ∈ f1) (m2 : b + 1 ∈ f2) (h1 : ∀ c ∈ f1, c = b ∨ c < b) (h2 : ∀ c ∈ f2, c = b + 1 ∨ c < b) : ZipSep2 (b + 4) (b + 2) (b + 3) b (b + 1) f1 f2 where
  TIz := ne_add (by decide)
  TOz := ne_add (by decide)
  TITO := ne_add (by decide)
  TIi1 := ne_add (c := 2) (d := 0) (by decide)
  mem1 := m1
  zf1 := fun h => zno (by decide) (by decide) (h1 _ h)
  Tf1 := fun h => zno (by decide) (by decide) (h1 _ h)
  TIi2 := ne_add (by decide)
  mem2 := m2
  zf2 := fun h => zno2 (by decide) (h2 _ h)
  Tf2 := fun h => zno2 (by decide) (h2 _ h)
  sep1_2 := fun h => zno2 (k := 0) (by decide) (h2 _ h)
  sep2_1 := fun h => zno (by decide) (by decide) (h1 _ h)
theorem turn_zipK {P : Program} {w : World} {K : PySem.W.Frag} {elts : List Expr} {kk : Nat} {tpos : Pos} {k1 k2 : Kd} {u1 u2 : Tok} {strict : Bool} {b : Nat} (l1 : k1.low b) (l2 : k2.low b) :
    Turn P w K (.Tuple elts kk tpos) (ItzK K k1 k2 strict) [b + 4, b + 2, b + 3, b, b + 1] (b + 4) (fun i h => ZAt strict h (b + 4) (b + 2) (b + 3) .none ∧ IsTupOf2 h (b + 2) (.ref b) (.ref (b + 1)) ∧ (∃ u v, IsTupOf2 h (b + 3) u v) ∧ k1.at u1 b i h ∧ k2.at u2 (b + 1) i h) where
  mem := by simp
  obj := fun i h st c hc => by
    obtain ⟨hz, hI, ⟨x, y, hO⟩, s1, s2⟩ := st
    simp only [List.mem_cons, List.not_mem_nil, or_false] at hc
    rcases hc with rfl | rfl | rfl | rfl | rfl
    · cases strict
      · exact ⟨_, hz, fun v q => nomatch q⟩
      · exact ⟨_, hz, fun v q => nomatch q⟩
    · exact ⟨_, hI, fun v q => nomatch q⟩
    · exact ⟨_, hO, fun v q => nomatch q⟩
    · exact Kd.obj s1
    · exact Kd.obj s2
  keep := fun i h h' st k => by
    obtain ⟨hz, hI, ⟨x, y, hO⟩, s1, s2⟩ := st
    refine ⟨?_, k _ (by simp) _ hI, ⟨x, y, k _ (by simp) _ hO⟩, Kd.keep s1 fun o e => k _ (by simp) o e, Kd.keep s2 fun o e => k _ (by simp) o e⟩
    cases strict
    · exact k (b + 4) (by simp) _ hz
    · exact k (b + 4) (by simp) _ hz
  item := by
    intro X hP hw hK hc i pins s σ H E I hf st hg
    subst hP hw hK
    obtain ⟨hz, hI, ⟨x0, y0, hO⟩, s1, s2⟩ := st
    obtain ⟨xs, ys, hx, hy, i1, i2, hst⟩ := hg
    obtain ⟨f1, P1, S1, D1, m1, b1, t1, o1, v1⟩ := Kd.draws (t := u1) (it := b) I hc hx l1 (Nat.le_refl _)
    obtain ⟨f2, P2, S2, D2, m2, b2, t2, o2, v2⟩ := Kd.draws (t := u2) (it := b + 1) I hc hy l2 (Nat.le_succ _)
    have S := zsep m1 m2 b1 b2
    have lt : b + 4 < s.heap.objs.size := by cases strict <;> exact Heap.lt_size hz
    have fin : ∀ (x y : Value) (h' h2 : Heap) (tk : Tok), P1 i x → P2 i y → ZAt strict h2 (b + 4) (b + 2) (b + 3) .none → Heap.SameBut (b + 4) h' h2 → IsTupOf2 h' (b + 3) x y → S1 (i + 1) h' → S2 (i + 1) h' → IsTupOf2 h' s.heap.objs.size x y →
        (∀ c o, c ≠ b + 4 → c ≠ b + 3 → c ≠ b → c ≠ b + 1 → s.heap.get? c = some o → h'.get? c = some o) →
        ∃ (v : V) (H' : Hp), Inv X pins σ H' { s with heap := h2, toks := tk } ∧ RelV v (.ref s.heap.objs.size) ∧ (ItzK X.K k1 k2 strict).yld i H v H' ∧
          (ZAt strict h2 (b + 4) (b + 2) (b + 3) .none ∧ IsTupOf2 h2 (b + 2) (.ref b) (.ref (b + 1)) ∧ (∃ u v, IsTupOf2 h2 (b + 3) u v) ∧ k1.at u1 b (i + 1) h2 ∧ k2.at u2 (b + 1) (i + 1) h2) ∧ ∀ c ∈ [b + 4, b + 2, b + 3, b, b + 1], H' c = none := by
      intro x y h' h2 tk px py z2 sb o' a1 a2 new kp
      obtain ⟨u, gu, ru⟩ := v1 i x px
      obtain ⟨v, gv, rv⟩ := v2 i y py
      have up : ∀ c o, c ≠ b + 4 → h'.get? c = some o → h2.get? c = some o := fun c o ne e => (sb.2 c ne).trans e
      have new2 : IsTupOf2 h2 s.heap.objs.size x y := up _ _ (Nat.ne_of_gt lt) new
      have ok : ObjOk X.prog X.w (upd H s.heap.objs.size (.tup [u, v])) h2 s.heap.objs.size (.tup [u, v]) :=
        ⟨by show 2 ≤ sizeLine; decide, [x, y], .cons ru (.cons rv .nil), ⟨_, new2, rfl, _, rfl⟩⟩
      have I1 : Inv X pins σ (upd H s.heap.objs.size (.tup [u, v])) { s with heap := h2, toks := tk } :=
        I.turnedNew (t' := tk) (ch := [b + 4, b + 2, b + 3, b, b + 1]) (fun c o hb q => up c o (fun q' => hb (by simp [q'])) (kp c o (fun q' => hb (by simp [q'])) (fun q' => hb (by simp [q'])) (fun q' => hb (by simp [q'])) (fun q' => hb (by simp [q'])) q)) hf (Nat.le_refl _) ok
      refine ⟨.ref s.heap.objs.size, _, I1, rfl, ⟨_, u, v, rfl, I.hok.fresh (Nat.le_refl _), rfl, fun l hl => by rw [Kd.inj I hl hx]; exact gu, fun l hl => by rw [Kd.inj I hl hy]; exact gv⟩, ⟨z2, ?_, ⟨x, y, up _ _ (ne_add (by decide)) o'⟩, ?_, ?_⟩, fun c hcm => ?_⟩
      · exact up _ _ (ne_add (by decide)) (kp _ _ (ne_add (by decide)) (ne_add (by decide)) (ne_add (c := 2) (d := 0) (by decide)) (ne_add (by decide)) hI)
      · exact Kd.keep (o1 _ _ a1) fun o e => up _ _ (ne_add (c := 0) (d := 4) (by decide)) e
      · exact Kd.keep (o2 _ _ a2) fun o e => up _ _ (ne_add (by decide)) e
      · have hlt : c < s.heap.objs.size := by
          simp only [List.mem_cons, List.not_mem_nil, or_false] at hcm
          have lt : (b : Nat) + 4 < s.heap.objs.size := lt
          rcases hcm with rfl | rfl | rfl | rfl | rfl
          · exact lt
          · exact Nat.lt_trans (Nat.add_lt_add_left (by decide) b) lt
          · exact Nat.lt_trans (Nat.add_lt_add_left (by decide) b) lt
          · exact Nat.lt_of_le_of_lt (Nat.le_add_right _ 4) lt
          · exact Nat.lt_trans (Nat.add_lt_add_left (by decide) b) lt
        rw [upd_ne (Nat.ne_of_lt hlt)]
        exact (hf c hcm).1
    cases strict with
    | false =>
      refine wpAny_pyNext_zipD2_item S D1 D2 hz hI hO (t1 _ s1) (t2 _ s2) i1 i2 fun x y h' tk px py z' o' a1 a2 new _ kp => ?_
      exact ⟨_, rfl, wpAny_letOwnedTupleGo_zip (s := { s with heap := h', toks := tk }) z' fun h2 z2 sb => fin x y h' h2 tk px py z2 sb o' a1 a2 new kp⟩
    | true =>
      have e := hst rfl
      rw [← e] at D2
      refine next_more S D1 D2 hz hI hO (t1 _ s1) (t2 _ s2) i1 fun x y h' tk px py z' o' a1 a2 new _ kp => ?_
      exact ⟨_, rfl, go_strict (s := { s with heap := h', toks := tk }) z' fun h2 z2 sb => fin x y h' h2 tk px py z2 sb o' a1 a2 new fun c o c1 c2 c3 c4 q => kp c o (by simp only [List.mem_cons, List.not_mem_nil, or_false, not_or]; exact ⟨c1, c2, c3, c4⟩) q⟩
  done := by
    intro X hP hw hK hc i pins s σ H E I hf st hg
    subst hP hw hK
    obtain ⟨hz, hI, ⟨x0, y0, hO⟩, s1, s2⟩ := st
    obtain ⟨xs, ys, hx, hy, i1, i2, he, hst⟩ := hg
    obtain ⟨f1, P1, S1, D1, m1, b1, t1, o1, v1⟩ := Kd.draws (t := u1) (it := b) I hc hx l1 (Nat.le_refl _)
    obtain ⟨f2, P2, S2, D2, m2, b2, t2, o2, v2⟩ := Kd.draws (t := u2) (it := b + 1) I hc hy l2 (Nat.le_succ _)
    have S := zsep m1 m2 b1 b2
    cases strict with
    | false => exact wpAny_pyNext_zipD2_end S D1 D2 hz hI hO (t1 _ s1) (t2 _ s2) i1 i2 he fun h' tk k => ⟨rfl, I.turnedL (t' := tk) (ch := [b + 4, b + 2, b + 3, b, b + 1]) (fun c o hb q =>
        k c o (fun q' => hb (by simp [q'])) (fun q' => hb (by simp [q'])) (fun q' => hb (by simp [q'])) (fun q' => hb (by simp [q'])) q) hf⟩
    | true =>
      have e := hst rfl
      have ei : i = xs.length := by omega
      subst ei
      rw [← e] at D2
      exact next_none (I.ok.hd hc) S D1 D2 hz hI (t1 _ s1) (t2 _ s2) fun h' tk k => ⟨rfl, I.turnedL (t' := tk) (ch := [b + 4, b + 2, b + 3, b, b + 1]) (fun c o hb q => k c o (fun q' => hb (by simp only [List.mem_cons, List.not_mem_nil, or_false] at q' ⊢; rcases q' with h | h | h | h <;> simp [h])) q) hf⟩
  self := fun A i s Q E st h => by
    cases strict
    · exact wpAny_pyIter_zip st.1 h
    · exact iter_strict st.1 h
end N
set_option Elab.async false
set_option linter.all false
set_option maxRecDepth 100000
set_option maxHeartbeats 1000000
namespace PySem
open Sem (wp)
end PySem
namespace N
open PySem PySem.Spec PyProof.Rows L2
open C8 (Cal Met Mak InsC pe_c pe_mt pe_mt0 pe_mk)
section
variable {X : Cx} {pins : List (Addr × Obj)} {σ : L2.St} {H : Hp} {s : Shared}
theorem Kd.begins {k : Kd} {xs : List V} {u : Value} (I : Inv X pins σ H s) (hs : k.src X.K H xs) (r : RelV k.v u) :
    k.low s.heap.objs.size ∧ ∃ (t : Tok) (o : Obj) (Hq : Heap → Prop), Begins u o Hq ∧ Hq s.heap ∧ ∀ (h : Heap) (it : Addr), h.get? it = some o → k.at t it 0 h := by
  cases k with
  | lst a =>
    cases r
    obtain ⟨its, rv, p, _⟩ := I.list hs
    exact ⟨p.lt, default, _, _, begins_list a its.toArray, p.isList, fun h it e => ⟨_, e, rfl, rfl⟩⟩
  | tup a =>
    cases r
    obtain ⟨its, rv, p, _⟩ := I.tuple hs
    obtain ⟨o, ho, _⟩ := id p
    exact ⟨Heap.lt_size ho, default, _, _, begins_tuple a its.toArray, p, fun h it e => ⟨_, e, rfl, rfl⟩⟩
  | txt x =>
    obtain ⟨t, rfl⟩ := r
    exact ⟨trivial, t, _, _, begins_text x t, trivial, fun h it e => ⟨_, e, rfl, rfl⟩⟩
end
def iZipK (K : PySem.W.Frag) (strict : Bool) (ta : TA) : TI := fun σ H R => ta σ H fun vs H1 => ∃ (k1 k2 : Kd) (xs ys : List V), vs = [k1.v, k2.v] ∧ k1.src K H1 xs ∧ k2.src K H1 ys ∧ R (ItzK K k1 k2 strict) H1
theorem pi_zipK {X : Cx} {e e2 : Expr} {ta : TA} {p pos tpos : Pos} {elts : List Expr} {kk : Nat} (hg : Gl X "zip") (hm : X.mg "zip" = none) (ha : PA X [e, e2] ta)
    (hs : starEach [e, e2] X.env = (false, eval e X.env) :: starEach [e2] X.env := by rfl) (hpl : (backTo pos (starEach [e2] X.env)).any (·.1) = false := by rfl) :
    PI X (.Tuple elts kk tpos) (.Call (.Name "zip" p) [e, e2] [] pos) (iZipK X.K false ta) := by
  refine ⟨fun pins s σ H R I h => ?_⟩
  refine Call_ (ld_blt I hg hm PyProof.Rows.boot_zip (PyProof.Rows.callWith_type1 (thn (ha.run pos pins s σ H _ I h) fun us s1 ⟨vs, H1, I1, r1, q1⟩ => ?_) hs hpl))
  obtain ⟨k1, k2, xs, ys, ex, hx, hy, q⟩ := q1
  subst ex
  cases r1 with
  | cons r rr =>
    cases rr with
    | cons r' rr =>
      cases rr
      obtain ⟨l1, t1, o1, G1, B1, g1, z1⟩ := Kd.begins I1 hx r
      obtain ⟨l2, t2, o2, G2, B2, g2, z2⟩ := Kd.begins I1 hy r'
      refine zip_begins2 B1 B2 g1 g2 fun h' hz hI hO e1 e2 _ kp => wpAny_pyIter_zip hz ?_
      have I2 : Inv X pins σ H1 { s1 with heap := h' } := I1.kept (t' := s1.toks) kp
      refine ⟨_, _, _, _, H1, rfl, I2, turn_zipK (b := s1.heap.objs.size) (strict := false) (u1 := t1) (u2 := t2) l1 l2, ⟨hz, hI, ⟨_, _, hO⟩, z1 _ _ e1, z2 _ _ e2⟩, fun c hc => ?_, q⟩
      have le : s1.heap.objs.size ≤ c := by
        simp only [List.mem_cons, List.not_mem_nil, or_false] at hc
        rcases hc with rfl | rfl | rfl | rfl | rfl
        · exact Nat.le_add_right _ _
        · exact Nat.le_add_right _ _
        · exact Nat.le_add_right _ _
        · exact Nat.le_refl _
        · exact Nat.le_add_right _ _
      exact I1.fpOk le (I1.hok.fresh le)
section
variable {F : FmKit} {T : Kx} {C H H' O O' : Hp} {G : Gm} {W W' : Om} {R : D → Om → Prop} {d e : D} {l m : List D} {ta tk : TA}
/-- a datum that zip takes: list, tuple, text; nothing that is still written -/
def Zs (d : D) (l : List D) : Prop := d = .lst l ∨ d = .tup l ∨ ∃ x : Str, d = .str x ∧ l = x.cps.toList.map fun c => D.str ⟨#[c]⟩
def pairs2 (l m : List D) : List D := (l.zip m).map fun p => .tup [p.1, p.2]
theorem den_chars (x : Str) : DenL F T H (x.cps.toList.map fun c => D.str ⟨#[c]⟩) (x.cps.toList.map fun c => V.str ⟨#[c]⟩) := by
  induction x.cps.toList with
  | nil => rfl
  | cons c cs ih => exact ⟨_, _, rfl, rfl, ih⟩
/-- the source at the machine; it stands -/
theorem Zs.kd {x : V} (h : Zs d l) (k : Den F T H d x) : ∃ (kd : Kd) (xs : List V), x = kd.v ∧ DenL F T H l xs ∧ ∀ H2 O2, Same H H2 → Dis O2 H2 → kd.src T.K (ov O2 H2) xs := by
  rcases h with rfl | rfl | ⟨z, rfl, rfl⟩
  · obtain ⟨a, xs, e, hs, kl⟩ := k
    exact ⟨.lst a, xs, e, kl, fun H2 O2 s di => di.same.seq (s.seq (SqL.of hs))⟩
  · obtain ⟨a, xs, e, hs, kl⟩ := k
    exact ⟨.tup a, xs, e, kl, fun H2 O2 s di => Same.sqT di.same (Same.sqT s hs)⟩
  · have k : x = .str z := k
    exact ⟨.txt z, _, k, den_chars z, fun _ _ _ _ => rfl⟩
theorem pairs2_len : (pairs2 l m).length = min l.length m.length := by simp [pairs2]
theorem pairs2_get {i : Nat} {z : D} (h : (pairs2 l m)[i]? = some z) : ∃ x y, l[i]? = some x ∧ m[i]? = some y ∧ z = .tup [x, y] := by
  unfold pairs2 at h
  rw [List.getElem?_map] at h
  obtain ⟨p, hp, e⟩ := Option.map_eq_some_iff.mp h
  rw [List.getElem?_zip_eq_some] at hp
  exact ⟨p.1, p.2, hp.1, hp.2, e.symm⟩
/-- the walk over a zip -/
theorem wk_zip {H1 : Hp} {k1 k2 : Kd} {xs ys : List V} {strict : Bool} (a1 : DenL F T H1 l xs) (a2 : DenL F T H1 m ys) (s1 : ∀ H2 O2, Same H1 H2 → Dis O2 H2 → k1.src T.K (ov O2 H2) xs) (s2 : ∀ H2 O2, Same H1 H2 → Dis O2 H2 → k2.src T.K (ov O2 H2) ys) (e : strict = true → l.length = m.length) :
    Wk F T (ItzK T.K k1 k2 strict) H1 (pairs2 l m) := fun i H2 O2 s di => by
  refine ⟨fun d hd => ?_, fun ei => ?_⟩
  · obtain ⟨x, y, hx, hy, rfl⟩ := pairs2_get hd
    obtain ⟨u, hu, ku⟩ := a1.get hx
    obtain ⟨v, hv, kv⟩ := a2.get hy
    have i1 := (List.getElem?_eq_some_iff.mp hu).1
    have i2 := (List.getElem?_eq_some_iff.mp hv).1
    refine ⟨⟨xs, ys, s1 _ _ s di, s2 _ _ s di, i1, i2, fun z => by rw [a1.len, a2.len]; exact e z⟩, fun w X ⟨Tp, u', v', e1, e2, e3, e4, e5⟩ => ?_⟩
    have hu' := e4 xs (s1 _ _ s di)
    have hv' := e5 ys (s2 _ _ s di)
    rw [hu] at hu'
    rw [hv] at hv'
    cases hu'
    cases hv'
    obtain ⟨h1, h2⟩ := ov_none e2
    have sm := same_upd (o := .tup [u, v]) h2
    refine ⟨upd H2 Tp (.tup [u, v]), sm, di.updH h1, by rw [e3, ov_updH h1], Tp, _, e1, SqT.of upd_same, ?_⟩
    exact ⟨u, _, rfl, (ku.mono s).mono sm, v, _, rfl, (kv.mono s).mono sm, rfl⟩
  · rw [pairs2_len] at ei
    have h1 := a1.len
    have h2 := a2.len
    exact ⟨xs, ys, s1 _ _ s di, s2 _ _ s di, by omega, by omega, by omega, fun z => by rw [h1, h2]; exact e z⟩
theorem ei_zipK {Y : List D → Om → Prop} (h : EvA F T ta G W fun ds W1 => ∃ d e l m, ds = [d, e] ∧ Zs d l ∧ Zs e m ∧ Y (pairs2 l m) W1) : EvI F T (iZipK T.K false ta) G W Y := fun C H O σ w Q q =>
  h C H O σ w _ fun ds W1 H1 O1 us ⟨d, e, l, m, ed, z1, z2, y⟩ n k => by
    subst ed
    obtain ⟨x, r, e1, k1, x2, r2, e2, k2, e3⟩ := k
    have e3 : r2 = [] := e3
    subst e3 e2 e1
    obtain ⟨kd1, xs, ex, a1, s1⟩ := z1.kd k1
    obtain ⟨kd2, ys, ey, a2, s2⟩ := z2.kd k2
    subst ex ey
    exact ⟨kd1, kd2, xs, ys, rfl, s1 _ _ (.refl _) n.dis, s2 _ _ (.refl _) n.dis, q _ _ W1 H1 O1 y n (wk_zip a1 a2 s1 s2 fun z => by cases z)⟩
end
end N
set_option Elab.async false
set_option linter.all false
set_option maxRecDepth 100000
set_option maxHeartbeats 1000000
namespace N
open PySem PySem.Spec PyProof.Rows L2
open C8 (Cal Met Mak InsC pe_c pe_mt pe_mt0 pe_mk)
def rLtS : R2 := fun x y H Q => ∃ a b : Str, x = .str a ∧ y = .str b ∧ Q (.bl (decide (a.cps.toList < b.cps.toList))) H
section
variable {X : Cx} {o e : Expr} {apos cpos : Pos} {td ty : TE}
theorem op_lt_str : OpR X (compareOp .Lt) rLtS := by
  intro pins s σ H x y v u Q I rx ry h
  obtain ⟨a, b, rfl, rfl, q⟩ := h
  obtain ⟨t, rfl⟩ := rx
  obtain ⟨t', rfl⟩ := ry
  exact PyProof.Rows.lt_str ⟨.bl (decide (a.cps.toList < b.cps.toList)), H, I, rfl, q⟩
end
section
variable {F : FmKit} {T : Kx} {C H H' O O' : Hp} {G : Gm} {W W' : Om} {R : D → Om → Prop} {d e : D} {l m : List D} {te ta tb : TE}
theorem bo_ltS {a b : Str} (r : R (.bl (decide (a.cps.toList < b.cps.toList))) W) : Bo F T rLtS (.str a) (.str b) W R := op_sc fun H Q k => ⟨a, b, rfl, rfl, k _ r⟩
end
end N
set_option Elab.async false
set_option linter.all false
set_option maxRecDepth 100000
set_option maxHeartbeats 1000000
namespace PySem
open Sem (wp)
end PySem
set_option Elab.async false
set_option linter.all false
set_option maxRecDepth 100000
namespace N
open PySem PySem.Spec PyProof.Rows L2
namespace Fm
def tr : Fm → D
  | .at c => .tup [.str "atom", .str (sg c)]
  | .no => .tup [.str "no"]
  | .imp a b => .tup [.str "if", a.tr, b.tr]
  | .all a => .tup [.str "all", a.tr]
def ht : Fm → Nat
  | .at _ => 0
  | .no => 0
  | .imp a b => 1 + max a.ht b.ht
  | .all a => 1 + a.ht
theorem sz_ht : ∀ f : Fm, f.sz + 5 ≤ 7 * 2 ^ f.ht
  | .at _ => by simp [sz, ht]
  | .no => by simp [sz, ht]
  | .imp a b => by
    have h1 := sz_ht a
    have h2 := sz_ht b
    have l1 : 2 ^ a.ht ≤ 2 ^ max a.ht b.ht := Nat.pow_le_pow_right (by omega) (Nat.le_max_left _ _)
    have l2 : 2 ^ b.ht ≤ 2 ^ max a.ht b.ht := Nat.pow_le_pow_right (by omega) (Nat.le_max_right _ _)
    simp only [sz, ht, Nat.pow_add, Nat.pow_one]
    omega
  | .all a => by
    have h1 := sz_ht a
    have : 1 ≤ 2 ^ a.ht := Nat.one_le_two_pow
    simp only [sz, ht, Nat.pow_add, Nat.pow_one]
    omega
/-- few unlike all-parts -/
def few (k : Nat) (f : Fm) : Prop := ∃ L : List Fm, L.length ≤ k ∧ ∀ g ∈ f.alls, g ∈ L
theorem few.len {k : Nat} {f : Fm} (h : few k f) (ok : f.okL) : f.alls.length ≤ k := by
  obtain ⟨L, h1, h2⟩ := h
  exact Nat.le_trans (len_le (nodup_asc (alls_sub ok).2) h2) h1
theorem few.up {k j : Nat} {f : Fm} (h : few k f) (hk : k ≤ j) : few j f := let ⟨L, h1, h2⟩ := h; ⟨L, by omega, h2⟩
theorem few.imp {k j : Nat} {f g : Fm} (h : few k f) (h' : few j g) : few (k + j) (.imp f g) := by
  obtain ⟨L, h1, h2⟩ := h
  obtain ⟨M, h3, h4⟩ := h'
  refine ⟨L ++ M, by rw [List.length_append]; omega, fun x hx => ?_⟩
  rw [List.mem_append]
  exact (mem_merge.mp hx).imp (h2 x) (h4 x)
theorem few.same {k : Nat} {f : Fm} (h : few k f) : few k (.imp f f) := by
  obtain ⟨L, h1, h2⟩ := h
  exact ⟨L, h1, fun x hx => (mem_merge.mp hx).elim (h2 x) (h2 x)⟩
theorem few.all {k : Nat} {f : Fm} (h : few k f) : few (k + 1) (.all f) := by
  obtain ⟨L, h1, h2⟩ := h
  refine ⟨.all f :: L, by rw [List.length_cons]; omega, fun x hx => ?_⟩
  rw [List.mem_cons]
  rcases mem_merge.mp hx with h | h
  · exact .inr (h2 x h)
  · exact .inl (List.mem_singleton.mp h)
theorem few.at (c : Nat) : few 0 (.at c) := ⟨[], Nat.le_refl _, fun x hx => by simp [alls] at hx⟩
theorem few.no : few 0 .no := ⟨[], Nat.le_refl _, fun x hx => by simp [alls] at hx⟩
theorem few_ht : ∀ f : Fm, few (2 ^ f.ht - 1) f
  | .at c => (few.at c).up (by omega)
  | .no => few.no.up (by omega)
  | .imp a b => by
    have l1 : 2 ^ a.ht ≤ 2 ^ max a.ht b.ht := Nat.pow_le_pow_right (by omega) (Nat.le_max_left _ _)
    have l2 : 2 ^ b.ht ≤ 2 ^ max a.ht b.ht := Nat.pow_le_pow_right (by omega) (Nat.le_max_right _ _)
    refine ((few_ht a).imp (few_ht b)).up ?_
    simp only [ht, Nat.pow_add, Nat.pow_one]
    omega
  | .all a => by
    have : 1 ≤ 2 ^ a.ht := Nat.one_le_two_pow
    refine (few_ht a).all.up ?_
    simp only [ht, Nat.pow_add, Nat.pow_one]
    omega
end Fm
def letters (p : Str) : Prop := ∀ c ∈ lets p, (65 ≤ c ∧ c ≤ 90) ∨ (97 ≤ c ∧ c ≤ 122)
theorem pow_le19 {n : Nat} (h : n ≤ 20) : (2 : Int) ^ n ≤ 1048576 := by
  have : (2 : Nat) ^ n ≤ 2 ^ 20 := Nat.pow_le_pow_right (by omega) h
  have e : ((2 ^ n : Nat) : Int) = (2 : Int) ^ n := by rw [Int.natCast_pow]; rfl
  rw [← e]
  have : (2 : Nat) ^ 20 = 1048576 := by decide
  omega
theorem pow_pos' (n : Nat) : (1 : Int) ≤ 2 ^ n := by
  have : 1 ≤ (2 : Nat) ^ n := Nat.one_le_two_pow
  have e : ((2 ^ n : Nat) : Int) = (2 : Int) ^ n := by rw [Int.natCast_pow]; rfl
  omega
theorem str_nat (n : Nat) : (((n + 1 : Nat) : Int) - 1) = (n : Int) := by omega
end N
set_option Elab.async false
set_option linter.all false
set_option maxRecDepth 100000
namespace N
open PySem PySem.Spec PyProof.Rows L2
namespace Fm
def inner : Fm → List Fm
  | .imp a b => [a, b]
  | .all a => [a]
  | _ => []
def subs : Fm → List Fm
  | .at c => [.at c]
  | .no => [.no]
  | .imp a b => .imp a b :: (subs a ++ subs b)
  | .all a => .all a :: subs a
theorem subs_len : ∀ f : Fm, (subs f).length = f.many
  | .at _ => rfl
  | .no => rfl
  | .imp a b => by
    simp only [subs, List.length_cons, List.length_append, subs_len a, subs_len b, many]
    omega
  | .all a => by
    simp only [subs, List.length_cons, subs_len a, many]
    omega
theorem subs_self (f : Fm) : f ∈ subs f := by cases f <;> simp [subs]
/-- each one behind those within it -/
inductive Cl : List Fm → Prop
  | nil : Cl []
  | snoc {l : List Fm} {g : Fm} : Cl l → (∀ p ∈ inner g, p ∈ l) → Cl (l ++ [g])
theorem Cl.take {l : List Fm} (h : Cl l) : ∀ i g, l[i]? = some g → ∀ p ∈ inner g, p ∈ l.take i := by
  induction h with
  | nil => intro i g h; simp at h
  | @snoc l g h hp ih =>
    intro i x hx p px
    by_cases hi : i < l.length
    · rw [List.getElem?_append_left hi] at hx
      rw [List.take_append_of_le_length (by omega)]
      exact ih i x hx p px
    · rw [List.getElem?_append_right (by omega)] at hx
      have e : i = l.length := by
        have := (List.getElem?_eq_some_iff.mp hx).1
        simp at this
        omega
      subst e
      simp at hx
      subst hx
      simp
      exact hp p px
structure PW (f : Fm) (K F : List Fm) (L : List (Fm × Bool)) : Prop where
  kn : K.Nodup
  ks : ∀ g ∈ K, g ∈ subs f
  ls : ∀ x ∈ L, x.1 ∈ subs f
  kf : ∀ g, g ∈ K ↔ g ∈ F ∨ (g, true) ∈ L
  fn : F.Nodup
  dj : ∀ g ∈ F, (g, true) ∉ L
  cl : Cl F
  up : ∀ A h B, L = A ++ (h, true) :: B → (∀ x ∈ B, x.1.sz < h.sz) ∧ ∀ p ∈ inner h, p ∈ F ∨ ∃ b, (p, b) ∈ B
  bt : (∃ B, L = (f, true) :: B) ∨ (L = [] ∧ ∃ F', F = F' ++ [f]) ∨ (L = [(f, false)] ∧ K = [])
  ln : L.length ≤ 2 * K.length + 1
theorem PW.start (f : Fm) : PW f [] [] [(f, false)] where
  kn := List.nodup_nil
  ks := by simp
  ls := by simp [subs_self]
  kf := by simp
  fn := List.nodup_nil
  dj := by simp
  cl := .nil
  up := by
    intro A h B e
    have : (h, true) ∈ [(f, false)] := by rw [e]; simp
    simp at this
  bt := .inr (.inr ⟨rfl, rfl⟩)
  ln := by simp
section
variable {f g h : Fm} {K F : List Fm} {L : List (Fm × Bool)}
theorem PW.low (s : PW f K F (L ++ [(h, true)])) : (h, true) ∉ L := fun m => by
  obtain ⟨A, B, e⟩ := List.append_of_mem m
  have := (s.up A h (B ++ [(h, true)]) (by rw [e]; simp)).1 (h, true) (by simp)
  exact Nat.lt_irrefl _ this
theorem PW.room (s : PW f K F L) : K.length ≤ f.many := by
  rw [← subs_len f]
  exact len_le s.kn s.ks
end
/-- others in the place of atoms -/
def sub (σ : Nat → Fm) : Fm → Fm
  | .at c => σ c
  | .no => .no
  | .imp a b => .imp (a.sub σ) (b.sub σ)
  | .all a => .all (a.sub σ)
end Fm
end N
set_option Elab.async false
set_option linter.all false
set_option maxRecDepth 100000
namespace N
open PySem PySem.Spec PyProof.Rows L2
open C8 (Cal Met Mak InsC pe_c pe_mt pe_mt0 pe_mk)
theorem makD {P : Program} {w : World} {K : PySem.W.Frag} {mg : Str → Option Value} {base : Heap} {F : FmKit} {cl : Nat → Addr} {S : FS} {x qual : Str} {C : Addr} {st : Stmt} {f : Addr} {fd : FuncData} {N ps : List Str} {k : Nat} (M : Mk K C f) (hm : mg x = some (.ref C)) (Fn : Fun K "__init__" qual st f fd) (Sc : FnScope N ps (defScope st)) (len : ∀ ds W post, S ds W post → ds.length = ps.length)
    (hb : ∀ (kV doc pm : Value) (an : Option Addr) (cdv ct : Value) (us : List Value), us.length = ps.length → bindArgs (PySem.W.fnOf "__init__" qual (defArgs st) (defBody st) (defScope st) .none kV doc pm an cdv ct) ⟨us, []⟩ = pure (ps.zip us))
    (body : ∀ (cdv : Value) (A : Around) (outer : List Env) (s : Shared) (H : Hp) (E : XK), Room k (A.deeper (envOfC qual (defScope st) s.heap.objs.size f cdv)) →
      ∃ t, PSs (cxOf CX0 P w K mg base N qual (defScope st) f cdv A outer s H E).nox (defBody st) t ∧ ∀ ds W post, S ds W post → Sw F ⟨K, cl⟩ t (startD N ds) W (E_ post)) : Mak P w K mg base (k + 1) x C (spN F ⟨K, cl⟩ S) [] :=
  ⟨f, fd, ps, [], M, okD Fn Sc len body, hm, Fn.binds hb, .nil⟩
def wbNames : List Str := ["below", "atoms", "all_beneath", "all_heights"]
structure Wb where
  below : List (List Nat)
  atoms : List Str
abbrev natD (k : Nat) : D := .int (k : Nat)
abbrev rowD (r : List Nat) : D := .tup (r.map natD)
abbrev rowsD (rs : List (List Nat)) : D := .tup (rs.map rowD)
abbrev atomsD (l : List Str) : D := .tup (l.map .str)
/-- the points beneath each one, by the points directly below -/
def bensF (rs : List (List Nat)) : List (List Nat) := rs.foldl (fun acc r => acc ++ [ascN (r ++ (r.map fun k => acc.getD k []).flatten)]) []
def hgtF (rs : List (List Nat)) : List Nat := rs.foldl (fun acc r => acc ++ [((r.map fun k => 1 + acc.getD k 0)).foldl max 0]) []
structure rowsOk (rs : List (List Nat)) : Prop where
  asc : ∀ (i : Nat) (r : List Nat), rs[i]? = some r → r.Pairwise (· < ·) ∧ ∀ k ∈ r, k < i
  few : rs.length ≤ 63
theorem rowsOk.take {rs : List (List Nat)} (h : rowsOk rs) (n : Nat) : rowsOk (rs.take n) where
  asc := fun i r hr => by
    rw [List.getElem?_take] at hr
    split at hr
    · exact h.asc i r hr
    · cases hr
  few := Nat.le_trans (by rw [List.length_take]; exact Nat.min_le_right _ _) h.few
theorem bensF_snoc (rs : List (List Nat)) (r : List Nat) : bensF (rs ++ [r]) = bensF rs ++ [ascN (r ++ (r.map fun k => (bensF rs).getD k []).flatten)] := by
  unfold bensF
  rw [List.foldl_append]
  rfl
theorem snoc_ind {α : Type} {P : List α → Prop} (h0 : P []) (h1 : ∀ l a, P l → P (l ++ [a])) (l : List α) : P l := by
  rw [← List.reverse_reverse l]
  induction l.reverse with
  | nil => exact h0
  | cons a l ih =>
    rw [List.reverse_cons]
    exact h1 _ a ih
theorem bensF_len (rs : List (List Nat)) : (bensF rs).length = rs.length := by
  induction rs using snoc_ind with
  | h0 => rfl
  | h1 rs r ih => rw [bensF_snoc, List.length_append, List.length_append, ih]; rfl
structure Wb.ok (w : Wb) : Prop where
  rows : rowsOk w.below
  some_ : w.below ≠ []
  len : w.atoms.length = w.below.length
  lets : ∀ s ∈ w.atoms, letters s ∧ (N.lets s).Pairwise (· < ·)
def Wb.d (w : Wb) : D := .obj 1 wbNames [rowsD w.below, atomsD w.atoms, .lst ((bensF w.below).map rowD), .lst ((hgtF w.below).map natD)]
theorem cutD_d1 (l : List D) : cutD l (some 1) none = l.drop 1 := by
  unfold cutD
  rw [show HT.sIx l.length 0 (some 1) = min 1 l.length from HT.sIx_nat l.length 0 1, show HT.sIx l.length l.length none = l.length from rfl]
  rw [List.take_of_length_le (by simp)]
  cases l <;> simp
theorem cutD_init (l : List D) : cutD l none (some (-1)) = l.take (l.length - 1) := by
  unfold cutD
  have e : HT.sIx l.length l.length (some (-1)) = l.length - 1 := by
    show (if (-1 : Int) < 0 then (-1 + (l.length : Int)).toNat else min (-1 : Int).toNat l.length) = _
    rw [if_pos (by decide)]
    omega
  rw [e, show HT.sIx l.length 0 none = 0 from rfl]
  simp
theorem all_yes (n : Nat) : ((List.replicate n true).all id) = true := by simp
theorem yes_bl (n : Nat) : (List.replicate n true).map D.bl = List.replicate n (D.bl true) := by simp
section
variable {F : FmKit} {T : Kx} {W : Om} {R : D → Om → Prop}
theorem isi_int {i : Int} (r : R (.bl true) W) : Ca F T (rIsi T.K) [.int i, .vl (.ty "int")] W R := ca_isi (.ty "int") tyd_int (by unfold PySem.W.kitOne; rfl) r
theorem isi_intB {i : Int} (r : R (.bl false) W) : Ca F T (rIsi T.K) [.int i, .vl (.ty "bool")] W R := ca_isi (.ty "bool") tyd_int (by unfold PySem.W.kitOne; first | rfl | decide +kernel) r
end
theorem letters_len {s : Str} (hl : letters s) (hp : (lets s).Pairwise (· < ·)) : s.length ≤ 100 := by
  have h1 := hp.imp (S := (· ≠ ·)) fun h => Nat.ne_of_lt h
  have h2 := List.Nodup.length_le_of_subset (l₁ := (lets s).map (· - 30)) (l₂ := List.range 100) ?_ fun x hx => ?_
  · rw [List.length_range, List.length_map, ← str_len] at h2
    exact h2
  · rw [List.Nodup, List.pairwise_map]
    refine hp.imp_of_mem fun {a b} ha hb h => ?_
    have := hl a ha
    have := hl b hb
    omega
  · obtain ⟨c, hc, rfl⟩ := List.mem_map.mp hx
    have := hl c hc
    rw [List.mem_range]
    omega
theorem bensF_low {rs : List (List Nat)} : rowsOk rs → ∀ (i : Nat) (b : List Nat), (bensF rs)[i]? = some b → ∀ x ∈ b, x < i := by
  induction rs using snoc_ind with
  | h0 => intro _ i b h; simp [bensF] at h
  | h1 rs r ih =>
    intro ok i b h x hx
    have ok2 : rowsOk rs := by
      have := ok.take rs.length
      simpa using this
    rw [bensF_snoc] at h
    by_cases hi : i < (bensF rs).length
    · rw [List.getElem?_append_left hi] at h
      exact ih ok2 i b h x hx
    · rw [List.getElem?_append_right (by omega)] at h
      have e : i = rs.length := by
        have := (List.getElem?_eq_some_iff.mp h).1
        rw [bensF_len] at *
        simp at this
        omega
      subst e
      rw [bensF_len] at h
      simp at h
      subst h
      rw [mem_ascN, List.mem_append] at hx
      have hr := (ok.asc rs.length r (by simp)).2
      rcases hx with h | h
      · exact hr x h
      · obtain ⟨l, hl, hx2⟩ := List.mem_flatten.mp h
        obtain ⟨k, hk, rfl⟩ := List.mem_map.mp hl
        have hk2 := hr k hk
        have hb : (bensF rs)[k]? = some ((bensF rs).getD k []) := by
          rw [List.getD_eq_getElem?_getD, List.getElem?_eq_getElem (by rw [bensF_len]; exact hk2)]
          rfl
        have := ih ok2 k _ hb x hx2
        omega
theorem low_len {ks : List Nat} {j : Nat} (nd : ks.Nodup) (h : ∀ x ∈ ks, x < j) : ks.length ≤ j := by
  have h2 := List.Nodup.length_le_of_subset (l₁ := ks) (l₂ := List.range j) nd fun x hx => List.mem_range.mpr (h x hx)
  rwa [List.length_range] at h2
section
variable {F : FmKit} {T : Kx} {RR : Om → Prop} {x : Addr} {z : D} {n : Str} {ns nm : List Str} {l : List D} {c : Nat}
theorem rcv_newC (zf : CZ T.K (T.cl c) nm) (hn : n ∈ nm) (h : n ∉ ns) (hl : ns.length < 1000) (r : RR [(x, .ins c (ns ++ [n]) (l ++ [z]))]) : Rcv F T (.adr x) z n [(x, .ins c ns l)] RR :=
  ⟨x, c, ns, l, [], [], _, _, rfl, rfl, zf.cls, zf.nos n hn, hl, .new ns l h, r⟩
end
inductive FldW : Str → Wb → D → Prop
  | below (w : Wb) : FldW "below" w (rowsD w.below)
  | atoms (w : Wb) : FldW "atoms" w (atomsD w.atoms)
  | bens (w : Wb) : FldW "all_beneath" w (.lst ((bensF w.below).map rowD))
  | hgts (w : Wb) : FldW "all_heights" w (.lst ((hgtF w.below).map natD))
end N
set_option Elab.async false
set_option linter.all false
set_option maxRecDepth 100000
namespace N
open PySem PySem.Spec PyProof.Rows L2
open C8 (Cal Met Mak InsC pe_c pe_mt pe_mt0 pe_mk)
/-- a def of the text with defaults -/
abbrev FunT (K : PySem.W.Frag) (x qual : Str) (st : Stmt) (dvs : List V) (f : Addr) (fd : FuncData) : Prop := FunD K x qual (defArgs st) (defBody st) (defScope st) dvs [] f fd
section
variable {P : Program} {w : World} {K : PySem.W.Frag} {mg : Str → Option Value} {base : Heap} {F : FmKit} {cl : Nat → Addr} {S : FS}
/-- every argument is written -/
theorem FunT.all {x qual : Str} {st : Stmt} {dvs : List V} {f : Addr} {fd : FuncData} {ps : List Str} (Fn : FunT K x qual st dvs f fd) (hd : dvs ≠ [])
    (h : ∀ (T : Addr) (kV doc pm : Value) (an : Option Addr) (cdv ct : Value) (us its : List Value), us.length = ps.length → its.length = dvs.length →
      ∃ k, bindArgs (PySem.W.fnOf x qual (defArgs st) (defBody st) (defScope st) (.ref T) kV doc pm an cdv ct) ⟨us, []⟩ = seqItems? (.ref T) >>= k ∧ k (some its.toArray) = pure (ps.zip us)) : Binds K fd ps [] := by
  obtain ⟨ds, r, b⟩ := FunD.binds1 (ps := ps) Fn ps.length dvs.length hd (by omega) (fun T kV doc pm an cdv ct us its h1 h2 => by
    obtain ⟨k, e1, e2⟩ := h T kV doc pm an cdv ct us its h1 h2
    refine ⟨k, e1, ?_⟩
    rw [e2, List.drop_of_length_le (by omega), List.append_nil])
  rw [List.drop_of_length_le (Nat.le_refl _)] at r
  cases r
  exact b
end
theorem inst_wb {F : FmKit} {W : Om} (w : Wb) : Inst F W w.d 1 wbNames [rowsD w.below, atomsD w.atoms, .lst ((bensF w.below).map rowD), .lst ((hgtF w.below).map natD)] := .obj _ _ _
/-- a field of a formula or of a web -/
theorem ev_fwF {T : Kx} {G : Gm} {W : Om} {R : D → Om → Prop} {ta : TE} {n : Str} (zf : FZ T.K (T.cl 0)) (zw : CZ T.K (T.cl 1) wbNames)
    (h : Ev FK T ta G W fun d W1 => (∃ f z, d = .fm f ∧ FldF n f z ∧ R z W1) ∨ ∃ w z, d = Wb.d w ∧ FldW n w z ∧ R z W1) : Ev FK T (tFld T.K ta n) G W R :=
  ev_fld (h.imp fun d W1 hh => by
    rcases hh with ⟨f, z, e, k, r⟩ | ⟨w, z, e, f, r⟩
    · subst e
      exact ⟨0, fmNames, fmVals FK f, z, .fm f, zf.cls, zf.nos n k.look.1, k.look.2, r⟩
    · subst e
      refine ⟨1, wbNames, _, z, .obj _ _ _, zw.cls, ?_, ?_, r⟩
      · cases f <;> exact zw.nos _ (by decide +kernel)
      · cases f <;> rfl)
end N
set_option Elab.async false
set_option linter.all false
set_option maxRecDepth 100000
set_option maxHeartbeats 4000000
namespace N
open PySem PySem.Spec PyProof.Rows L2
def rSetL (K : PySem.W.Frag) (w : World) : List V → Hp → VK → Prop := fun xs H Q => ∃ (l : Addr) (ns : List Int), xs = [.ref l] ∧ SqL K H l (ns.map V.int) ∧ ns.length < 4000 ∧ ∀ a c, c ≤ ns.length → H a = none → Q (.ref a) (upd H a (SetO w a (fun j => decide (j ∈ ns)) c))
end N
set_option Elab.async false
set_option linter.all false
set_option maxRecDepth 100000
set_option maxHeartbeats 4000000
namespace N
open PySem PySem.Spec PyProof.Rows L2
section
variable {F : FmKit} {T : Kx} {C H H' O O' : Hp} {G : Gm} {W W' : Om} {R : D → Om → Prop} {σ : L2.St} {d e : D} {l m : List D} {te ta tb to ti : TE}
theorem ca_listF (hv : Vs W d l) (r : R (.lst l) W) : Ca F T (fun xs H Q => ∃ p ys, xs = [.ref p] ∧ (SqL T.K H p ys ∨ SqT T.K H p ys) ∧ ∀ q, H q = none → Q (.ref q) (upd H q (.lst ys))) [d] W R :=
  ca_fz (ca_list hv fun p hp => ⟨p, _, W, _, rfl, List.Perm.refl _, .lst _, r⟩)
end
end N
set_option Elab.async false
set_option linter.all false
set_option maxRecDepth 100000
set_option maxHeartbeats 4000000
set_option Elab.async false
set_option linter.all false
set_option maxRecDepth 100000
namespace N
open PySem PySem.Spec PyProof.Rows L2
theorem getD_snoc_lt {α : Type} {l : List α} {a d : α} {i : Nat} (h : i < l.length) : (l ++ [a]).getD i d = l.getD i d := by
  rw [List.getD_eq_getElem?_getD, List.getD_eq_getElem?_getD, List.getElem?_append_left h]
theorem getD_snoc_eq {α : Type} {l : List α} {a d : α} {i : Nat} (h : i = l.length) : (l ++ [a]).getD i d = a := by
  subst h
  rw [List.getD_eq_getElem?_getD, List.getElem?_append_right (Nat.le_refl _)]
  simp
theorem rowsOk.init {rs : List (List Nat)} {r : List Nat} (h : rowsOk (rs ++ [r])) : rowsOk rs := by
  have := h.take rs.length
  simpa using this
theorem rowsOk.at_ {rs : List (List Nat)} (h : rowsOk rs) {i : Nat} (hi : i < rs.length) : (rs.getD i []).Pairwise (· < ·) ∧ ∀ k ∈ rs.getD i [], k < i :=
  h.asc i _ (by rw [List.getD_eq_getElem?_getD, List.getElem?_eq_getElem hi]; rfl)
theorem bens_at {rs : List (List Nat)} : rowsOk rs → ∀ {i : Nat}, i < rs.length → (bensF rs).getD i [] = ascN (rs.getD i [] ++ ((rs.getD i []).map fun k => (bensF rs).getD k []).flatten) := by
  induction rs using snoc_ind with
  | h0 => intro _ i h; cases h
  | h1 rs r ih =>
    intro ok i hi
    rw [bensF_snoc]
    have hl := bensF_len rs
    rw [List.length_append] at hi
    have hi : i < rs.length + 1 := hi
    rcases Nat.lt_or_eq_of_le (Nat.le_of_lt_succ hi) with h | h
    · rw [getD_snoc_lt (by omega), getD_snoc_lt h, ih ok.init h]
      congr 3
      refine List.map_congr_left fun k hk => ?_
      have := (ok.init.at_ h).2 k hk
      rw [getD_snoc_lt (by omega)]
    · rw [getD_snoc_eq (by omega), getD_snoc_eq h]
      congr 3
      refine List.map_congr_left fun k hk => ?_
      have := (ok.asc rs.length r (by simp)).2 k hk
      rw [getD_snoc_lt (by omega)]
theorem bens_mem {rs : List (List Nat)} (ok : rowsOk rs) {i x : Nat} (hi : i < rs.length) : x ∈ (bensF rs).getD i [] ↔ x ∈ rs.getD i [] ∨ ∃ k ∈ rs.getD i [], x ∈ (bensF rs).getD k [] := by
  rw [bens_at ok hi, mem_ascN, List.mem_append, List.mem_flatten]
  refine or_congr Iff.rfl ⟨fun ⟨l, h1, h2⟩ => ?_, fun ⟨k, h1, h2⟩ => ⟨_, List.mem_map.mpr ⟨k, h1, rfl⟩, h2⟩⟩
  obtain ⟨k, h3, rfl⟩ := List.mem_map.mp h1
  exact ⟨k, h3, h2⟩
theorem bens_lt {rs : List (List Nat)} (ok : rowsOk rs) {i x : Nat} (hi : i < rs.length) (h : x ∈ (bensF rs).getD i []) : x < i :=
  bensF_low ok i _ (by rw [List.getD_eq_getElem?_getD, List.getElem?_eq_getElem (by rw [bensF_len]; exact hi)]; rfl) x h
theorem bens_trans {rs : List (List Nat)} (ok : rowsOk rs) {x k : Nat} : ∀ (i : Nat), i < rs.length → k ∈ (bensF rs).getD i [] → x ∈ (bensF rs).getD k [] → x ∈ (bensF rs).getD i [] := by
  intro i
  induction i using Nat.strongRecOn with
  | ind i ih =>
    intro hi h hx
    rcases (bens_mem ok hi).mp h with h1 | ⟨q, h1, h2⟩
    · exact (bens_mem ok hi).mpr (.inr ⟨k, h1, hx⟩)
    · have hq := (ok.at_ hi).2 q h1
      exact (bens_mem ok hi).mpr (.inr ⟨q, h1, ih q hq (by omega) h2 hx⟩)
theorem bens_row {rs : List (List Nat)} (ok : rowsOk rs) {i x k : Nat} (hi : i < rs.length) (h : k ∈ (bensF rs).getD i []) (hx : x ∈ rs.getD k []) : x ∈ (bensF rs).getD i [] := by
  have := bens_lt ok hi h
  exact bens_trans ok i hi h ((bens_mem ok (by omega)).mpr (.inl hx))
/-- the ways, gone one by one -/
structure WW (rs : List (List Nat)) (i : Nat) (met wait : List Nat) : Prop where
  nd : met.Nodup
  ms : ∀ x ∈ met, x ∈ (bensF rs).getD i []
  ws : ∀ x ∈ wait, x ∈ (bensF rs).getD i []
  top : ∀ k ∈ rs.getD i [], k ∈ met ∨ k ∈ wait
  cl : ∀ m ∈ met, ∀ k ∈ rs.getD m [], k ∈ met ∨ k ∈ wait
theorem WW.start {rs : List (List Nat)} (ok : rowsOk rs) {i : Nat} (hi : i < rs.length) : WW rs i [] (rs.getD i []) :=
  ⟨List.nodup_nil, by simp, fun x hx => (bens_mem ok hi).mpr (.inl hx), fun k hk => .inr hk, by simp⟩
theorem WW.new {rs : List (List Nat)} (ok : rowsOk rs) {i k : Nat} {met wait : List Nat} (hi : i < rs.length) (w : WW rs i met (wait ++ [k])) (h : k ∉ met) : WW rs i (met ++ [k]) (wait ++ rs.getD k []) := by
  have hk := w.ws k (by simp)
  have mv : ∀ x, x ∈ met ∨ x ∈ wait ++ [k] → x ∈ met ++ [k] ∨ x ∈ wait ++ rs.getD k [] := fun x hx => by
    simp only [List.mem_append, List.mem_singleton] at hx ⊢
    rcases hx with h | h | h
    · exact .inl (.inl h)
    · exact .inr (.inl h)
    · exact .inl (.inr h)
  refine ⟨?_, fun x hx => ?_, fun x hx => ?_, fun x hx => mv x (w.top x hx), fun m hm x hx => ?_⟩
  · rw [List.nodup_append]
    refine ⟨w.nd, by simp, fun a ha b hb e => ?_⟩
    rw [List.mem_singleton] at hb
    subst hb e
    exact h ha
  · rcases List.mem_append.mp hx with h1 | h1
    · exact w.ms x h1
    · rw [List.mem_singleton] at h1
      exact h1 ▸ hk
  · rcases List.mem_append.mp hx with h1 | h1
    · exact w.ws x (by simp [h1])
    · exact bens_row ok hi hk h1
  · rcases List.mem_append.mp hm with h1 | h1
    · exact mv x (w.cl m h1 x hx)
    · rw [List.mem_singleton] at h1
      subst h1
      exact .inr (List.mem_append_right _ hx)
theorem WW.few {rs : List (List Nat)} (ok : rowsOk rs) {i : Nat} {met wait : List Nat} (hi : i < rs.length) (w : WW rs i met wait) : met.length ≤ i :=
  low_len w.nd fun x hx => bens_lt ok hi (w.ms x hx)
theorem rowsOk.nil : rowsOk [] := ⟨fun i r h => by simp at h, by simp⟩
end N
set_option Elab.async false
set_option linter.all false
set_option maxRecDepth 100000
namespace N
open PySem PySem.Spec PyProof.Rows L2
section
variable {F : FmKit} {T : Kx} {G : Gm} {W : Om} {R : D → Om → Prop} {t : TT} {te : TE}
/-- a comprehension that leaves what is owned as it is -/
theorem ev_lcQ {vs : List Nat} {wi : TI} {g : TG} (h : EvI F T wi G W fun ds W1 => ∃ I : Nat → List D → Prop, I 0 [] ∧
      (∀ i d acc, ds[i]? = some d → I i acc → Tw F T vs g d (wipeG G vs) fun G2 => EvT F T t G2 W1 fun b W2 => if b = true then Ev F T te G2 W2 (fun z W3 => acc.length < sizeLine ∧ W3 = W1 ∧ I (i + 1) (acc ++ [z])) else (W2 = W1 ∧ I (i + 1) acc)) ∧
      (∀ acc, I ds.length acc → R (.lst acc) W1)) : Ev F T (tLc wi g t te vs) G W R :=
  ev_lcF (ei_imp h fun ds W1 ⟨I, h1, h2, h3⟩ => ⟨fun i acc W' => W' = W1 ∧ I i acc, ⟨rfl, h1⟩, fun i d acc W' hd ⟨e, hi⟩ => by
    subst e
    exact h2 i d acc hd hi, fun acc W' ⟨e, hi⟩ => by
    subst e
    exact h3 acc hi⟩)
end
def allV (rs : List (List Nat)) (vs : List Bool) : List Bool := rs.foldl (fun acc r => acc ++ [r.all fun k => vs.getD k false && acc.getD k false]) []
theorem allV_snoc (rs : List (List Nat)) (r : List Nat) (vs : List Bool) : allV (rs ++ [r]) vs = allV rs vs ++ [r.all fun k => vs.getD k false && (allV rs vs).getD k false] := by
  unfold allV
  rw [List.foldl_append]
  rfl
theorem allV_len (rs : List (List Nat)) (vs : List Bool) : (allV rs vs).length = rs.length := by
  induction rs using snoc_ind with
  | h0 => rfl
  | h1 rs r ih => rw [allV_snoc, List.length_append, List.length_append, ih]; rfl
theorem allV_row {rs : List (List Nat)} {vs : List Bool} : rowsOk rs → ∀ {i : Nat}, i < rs.length → (allV rs vs).getD i false = (rs.getD i []).all fun k => vs.getD k false && (allV rs vs).getD k false := by
  induction rs using snoc_ind with
  | h0 => intro _ i h; cases h
  | h1 rs r ih =>
    intro ok i hi
    rw [allV_snoc]
    have hl := allV_len rs vs
    rw [List.length_append] at hi
    have hi : i < rs.length + 1 := hi
    have cong : ∀ (l : List Nat), (∀ k ∈ l, k < rs.length) → (l.all fun k => vs.getD k false && (allV rs vs).getD k false) = l.all fun k => vs.getD k false && (allV rs vs ++ [r.all fun k => vs.getD k false && (allV rs vs).getD k false]).getD k false := fun l h => by
      rw [Bool.eq_iff_iff, List.all_eq_true, List.all_eq_true]
      refine forall_congr' fun k => forall_congr' fun hk => ?_
      rw [getD_snoc_lt (by have := h k hk; omega)]
    rcases Nat.lt_or_eq_of_le (Nat.le_of_lt_succ hi) with h | h
    · rw [getD_snoc_lt (by omega), getD_snoc_lt h, ih ok.init h]
      exact cong _ fun k hk => by have := (ok.init.at_ h).2 k hk; omega
    · rw [getD_snoc_eq (by omega), getD_snoc_eq h]
      exact cong _ fun k hk => (ok.asc rs.length r (by simp)).2 k hk
theorem allV_at {rs : List (List Nat)} {vs : List Bool} (ok : rowsOk rs) : ∀ i : Nat, i < rs.length → (allV rs vs).getD i false = ((bensF rs).getD i []).all fun k => vs.getD k false := by
  intro i
  induction i using Nat.strongRecOn with
  | ind i ih =>
    intro hi
    rw [allV_row ok hi, Bool.eq_iff_iff, List.all_eq_true, List.all_eq_true]
    constructor
    · intro h x hx
      rcases (bens_mem ok hi).mp hx with h1 | ⟨k, h1, h2⟩
      · have := h x h1
        rw [Bool.and_eq_true] at this
        exact this.1
      · have hk := (ok.at_ hi).2 k h1
        have := h k h1
        rw [Bool.and_eq_true, ih k hk (by omega), List.all_eq_true] at this
        exact this.2 x h2
    · intro h k hk
      have hki := (ok.at_ hi).2 k hk
      rw [Bool.and_eq_true, ih k hki (by omega), List.all_eq_true]
      exact ⟨h k ((bens_mem ok hi).mpr (.inl hk)), fun x hx => h x ((bens_mem ok hi).mpr (.inr ⟨k, hk, hx⟩))⟩
/-- the values of a formula at the points -/
def Wb.vals (w : Wb) : Fm → List Bool
  | .at c => w.atoms.map fun s => decide (c ∈ lets s)
  | .no => w.below.map fun _ => false
  | .imp a b => List.zipWith (fun x y => !x || y) (w.vals a) (w.vals b)
  | .all a => allV w.below (w.vals a)
theorem Wb.vals_len {w : Wb} (h : w.atoms.length = w.below.length) : ∀ f : Fm, (w.vals f).length = w.below.length
  | .at c => by unfold Wb.vals; rw [List.length_map, h]
  | .no => by unfold Wb.vals; rw [List.length_map]
  | .imp a b => by unfold Wb.vals; rw [List.length_zipWith, vals_len h a, vals_len h b, Nat.min_self]
  | .all a => by unfold Wb.vals; rw [allV_len]
end N
set_option Elab.async false
set_option linter.all false
set_option maxRecDepth 100000
set_option maxHeartbeats 4000000
namespace N
open PySem PySem.Spec PyProof.Rows L2
section
variable {prog : Program} {w : World} {A : Around} {E : Value → Shared → Prop} {s : Shared} {K : PySem.W.Frag} {x C L f : Addr} {h₀ : Heap} {m : Str → Option Value} {ox : Obj} {od : Option Obj} {name nm : Str} {b tb : Value}
theorem ifBound_S {M : Model} {T id : String} {args : List Value} {Q : Option Value → Shared → Prop} (X : K.In s.heap) (I : PySem.W.InstAt s.heap x ox C od) (hs : PySem.W.findIn K (.ref C) name = some (some (.builtin id))) (S : Slot T nm id)
    (h : wpAny M A (call (.builtin id) (.ref x :: args)) (fun v => Q (some v)) E s) : wpAny M A (callSpecialIfBound? (.ref x) name args) Q E s := by
  simp only [callSpecialIfBound?, bindSpecialIfBound?]
  refine wpAny_holding (wpAny_bind (wpAny_bind (wpAny_bind (I.type.here ((PySem.W.looks_findIn X hs).here ?_)))))
  simp only [S.bind]
  refine wpAny_bind (wpAny_askSetting (wpAny_ite ?_))
  have fin : wpAny M A (call (.builtin id) ([.ref x] ++ args) >>= fun v => pure (some v)) Q E s := wpAny_bind (wpAny_mono h (fun v s' h' => wpAny_pure h') fun _ _ h' => h')
  split
  · exact wpAny_bind (wpAny_pure (wpAny_pure fin))
  · exact wpAny_tryCatch (wpAny_bind (wpAny_pure (wpAny_pure fin)))
theorem inst_object (X : K.In s.heap) (I : PySem.W.InstAt s.heap x ox C od) (hm : PySem.W.mroIn K C (.type "object") = some true) {M : Model} : PySem.W.Looks M s.heap (isInstance (.ref x) (.type "object")) true :=
  I.type.andThen (PySem.W.looks_mroIn X hm)
theorem cmp_ne {Q : Value → Shared → Prop} (hu : A.units + 1 < cLine) (X : K.In s.heap) (I : PySem.W.InstAt s.heap x ox C od) (hb : PySem.W.Looks (model prog w) s.heap (typeOf b) tb) (hn : PySem.W.notFirst K C tb = true)
    (hs : PySem.W.findIn K (.ref C) "__ne__" = some (some (.builtin "object.__ne__"))) (hq : PySem.W.findIn K (.ref C) "__eq__" = some (some (.ref f))) (hf : PySem.W.isFn K (.ref f) = true) (hm : PySem.W.mroIn K C (.type "object") = some true)
    (h : wpAny (model prog w) A.in1 (call (.ref f) [.ref x, b]) (fun v s' => ∃ k, v = .bool k ∧ Q (.bool (!k)) s') E s) : wpAny (model prog w) A (richCompare .NotEq (.ref x) b) Q E s := by
  have one : wpAny (model prog w) A (tryCompare (.ref x) (cmpInfo .NotEq).2.1 b) (fun r s' => ∃ v, r = some v ∧ Q v s') E s := by
    unfold tryCompare
    refine wpAny_bind (ifBound_S X I hs F.slot_object_ne (wpAny_call (codeAny_call_builtin F.slot_object_ne.plain F.cmpEntry_ne
      (PySem.W.check_slot F.cmpKind_ne F.cmpSplit_ne (inst_object X I hm) (F.cmpArgs_ne _ _) ?_))))
    unfold Builtin.«object.__ne__»
    repeat (first | with_reducible refine wpAny_cRoomFor hu ?_ | with_reducible refine PySem.W.ifBound_K X I hq hf (wpAny_mono h (fun v s' hv => ?_) fun _ _ e => e) | wp_step)
    obtain ⟨k, rfl, q⟩ := hv
    repeat wp_step
    exact ⟨_, rfl, q⟩
  unfold richCompare
  simp only [oneThing_ref]
  refine wpAny_holding (wpAny_bind (wpAny_cRoomFor (Nat.lt_of_succ_lt hu) ?_))
  refine wpAny_bind (I.type.here (wpAny_bind (hb.here ?_)))
  split
  · rename_i q
    have e : PySem.W.subIn K tb (.ref C) = some false := by
      rcases Bool.or_eq_true_iff.mp hn with e | e
      · rw [beq_iff_eq.mp e] at q; simp at q
      · exact beq_iff_eq.mp e
    refine wpAny_bind ((PySem.W.looks_subIn X e).here ?_)
    simp only [Bool.false_eq_true, if_false]
    refine wpAny_bind (wpAny_mono one (fun r s' z => ?_) fun _ _ e => e)
    obtain ⟨v, rfl, hq⟩ := z
    exact wpAny_pure hq
  · refine wpAny_bind (wpAny_pure ?_)
    simp only [Bool.false_eq_true, if_false]
    refine wpAny_bind (wpAny_mono one (fun r s' z => ?_) fun _ _ e => e)
    obtain ⟨v, rfl, hq⟩ := z
    exact wpAny_pure hq
end
section
variable {X : Cx} {CX : CXT} {k : Nat} {f C : Addr} {fd : FuncData} {ps : List Str} {sp : Sp} {E : XK}
theorem notFirst_self {K : PySem.W.Frag} {C : Addr} : PySem.W.notFirst K C (.ref C) = true := by
  unfold PySem.W.notFirst
  simp
/-- x != y by the own __eq__ -/
def rNeO (C : Addr) (sp : Sp) (E : XK) : R2 := rOwn2 C (fun vs H Q E => sp vs H (fun v H' => ∃ b, v = .bl b ∧ Q (.bl (!b)) H') E) E
theorem op_neO (F : FnOk X.prog X.w X.K X.mg X.base CX k f fd ps sp) (hr : Room (k + 1) X.A) (o : Own2 X.K C "__eq__" f) (hs : PySem.W.findIn X.K (.ref C) "__ne__" = some (some (.builtin "object.__ne__"))) (hm : PySem.W.mroIn X.K C (.type "object") = some true) (hb : Binds X.K fd ps []) (hx : Passes CX X E) : OpR X (compareOp .NotEq) (rNeO C sp E) := by
  intro pins s σ H x y v u Q I rx ry hq
  obtain ⟨a, b, dx, dy, fs, gs, rfl, rfl, ha, hb', q⟩ := hq
  cases rx
  cases ry
  obtain ⟨od, J⟩ := inst_of I ha
  obtain ⟨od', J'⟩ := inst_of I hb'
  show wpAny _ _ (richCompare .NotEq (.ref a) (.ref b)) _ _ _
  refine cmp_ne (tb := .ref C) ?_ I.kIn J J'.type notFirst_self hs o.at_ o.fn hm ?_
  · exact hr.in1.units0
  · refine thn (run_at F hr.in1 rfl hb hx I (vs := [V.ref a, V.ref b]) (.cons rfl (.cons rfl .nil)) q) fun v s' h => ?_
    obtain ⟨z, H', I', rz, b, rfl, qz⟩ := h
    cases rz
    exact ⟨b, rfl, .bl (!b), H', I', rfl, qz⟩
/-- the class has no own __ne__ -/
structure NeC (K : PySem.W.Frag) (C : Addr) : Prop where
  ne : PySem.W.findIn K (.ref C) "__ne__" = some (some (.builtin "object.__ne__"))
  ob : PySem.W.mroIn K C (.type "object") = some true
theorem op_ne_opn {j : Nat} (o : Opn X.prog X.w X.K X.mg X.base k C "__eq__" sp) (y : NeC X.K C) (hr : Room j X.A) (hk : k + 1 ≤ j) : OpR X (compareOp .NotEq) (rNeO C sp E0) := by
  obtain ⟨f, fd, ps, o2, h, b⟩ := o.ex
  exact op_neO h (hr.mono hk) o2 y.ne y.ob b pass0
end
section
variable {F : FmKit} {T : Kx} {C H H' O O' : Hp} {G : Gm} {W W' : Om} {R : D → Om → Prop} {S : FS} {c : Nat}
theorem bo_neO {d e : D} {ns ms : List Str} {l m : List D} (i1 : Inst F W d c ns l) (i2 : Inst F W e c ms m) (h : Hand S [d, e] W fun d' W' => ∃ b, d' = .bl b ∧ R (.bl (!b)) W') : Bo F T (rNeO (T.cl c) (spN F T S) E0) d e W R := fun C H O di oc ow x y hx hy Q q => by
  obtain ⟨a, dx, fs, ex, ha, _⟩ := i1.at di ow hx
  obtain ⟨b, dy, gs, ey, hb, _⟩ := i2.at di ow hy
  refine ⟨a, b, dx, dy, fs, gs, ex, ey, ha, hb, h.run di oc ow ⟨x, _, rfl, hx, .one hy⟩ fun d' W' H' O' v ⟨z, e, r⟩ n k => ?_⟩
  subst e
  exact ⟨z, k, q _ W' H' O' _ r n rfl⟩
end
end N
set_option Elab.async false
set_option linter.all false
set_option maxRecDepth 100000
namespace N
open PySem PySem.Spec PyProof.Rows L2
namespace Fm
def sm (f : Fm) : Fm := neg (.all (neg f))
end Fm
theorem vals_at {w : Wb} (hw : w.ok) {f : Fm} {i : Nat} (hi : i < w.below.length) : (w.vals (.all f)).getD i false = ((bensF w.below).getD i []).all fun k => (w.vals f).getD k false := allV_at hw.rows i hi
theorem getD_map {α : Type} {β : Type} {f : α → β} {l : List α} {i : Nat} {d : α} {e : β} (h : i < l.length) : (l.map f).getD i e = f (l.getD i d) := by
  rw [List.getD_eq_getElem?_getD, List.getD_eq_getElem?_getD, List.getElem?_map, List.getElem?_eq_getElem h]
  rfl
theorem getD_zip {α β γ : Type} {f : α → β → γ} {l : List α} {m : List β} {i : Nat} {d : α} {e : β} {z : γ} (h : i < l.length) (h2 : i < m.length) : (List.zipWith f l m).getD i z = f (l.getD i d) (m.getD i e) := by
  rw [List.getD_eq_getElem?_getD, List.getD_eq_getElem?_getD, List.getD_eq_getElem?_getD, List.getElem?_zipWith, List.getElem?_eq_getElem h, List.getElem?_eq_getElem h2]
  rfl
section
variable {w : Wb} (hl : w.atoms.length = w.below.length)
include hl
theorem vals_imp {f g : Fm} {i : Nat} (hi : i < w.below.length) : (w.vals (.imp f g)).getD i false = (!(w.vals f).getD i false || (w.vals g).getD i false) := by
  show (List.zipWith _ _ _).getD i false = _
  rw [getD_zip (d := false) (e := false) (by rw [Wb.vals_len hl]; exact hi) (by rw [Wb.vals_len hl]; exact hi)]
theorem vals_no {i : Nat} (hi : i < w.below.length) : (w.vals .no).getD i false = false := by
  show (w.below.map fun _ => false).getD i false = false
  rw [getD_map (d := []) hi]
end
theorem okF10 {k : Nat} {f : Fm} (h : f.okL) (ht : f.ht ≤ 12) (hf : Fm.few k f) (hk : k ≤ 63) : f.okF := by
  refine ⟨h, ?_, Nat.lt_of_le_of_lt (hf.len h) (by omega)⟩
  have h1 := Fm.sz_ht f
  have h2 : 2 ^ f.ht ≤ 2 ^ 12 := Nat.pow_le_pow_right (by omega) ht
  have e : (2 : Nat) ^ 12 = 4096 := by decide
  omega
/-- drawn formulas -/
structure sm10 (f : Fm) : Prop where
  ok : f.okL
  ht : f.ht ≤ 5
theorem sm10.few {f : Fm} (h : sm10 f) : Fm.few 31 f := (Fm.few_ht f).up (by
  have : (2 : Nat) ^ f.ht ≤ 2 ^ 5 := Nat.pow_le_pow_right (by omega) h.ht
  omega)
theorem sm10.okF {f : Fm} (h : sm10 f) : f.okF := okF10 h.ok (Nat.le_trans h.ht (by decide)) h.few (by decide)
theorem sm10.neg {f : Fm} (h : sm10 f) : (Fm.neg f).okF := okF10 ⟨h.ok, trivial⟩ (by have := h.ht; simp only [Fm.neg, Fm.ht]; omega) (h.few.imp Fm.few.no) (by decide)
theorem sm10.imp {f g : Fm} (h : sm10 f) (k : sm10 g) : (Fm.imp f g).okF := okF10 ⟨h.ok, k.ok⟩ (by have := h.ht; have := k.ht; simp only [Fm.ht]; omega) (h.few.imp k.few) (by decide)
theorem sm10.conj {f g : Fm} (h : sm10 f) (k : sm10 g) : (Fm.conj f g).okF :=
  okF10 ⟨⟨h.ok, k.ok, trivial⟩, trivial⟩ (by have := h.ht; have := k.ht; simp only [Fm.conj, Fm.neg, Fm.ht]; omega) ((h.few.imp (k.few.imp Fm.few.no)).imp Fm.few.no) (by decide)
theorem sm10.sm {f : Fm} (h : sm10 f) : (Fm.sm f).okF :=
  okF10 (show (Fm.sm f).okL from ⟨⟨h.ok, trivial⟩, trivial⟩) (by have := h.ht; simp only [Fm.sm, Fm.neg, Fm.ht]; omega) ((h.few.imp Fm.few.no).all.imp Fm.few.no) (by decide)
theorem sm10.all {f g : Fm} (h : sm10 f) (k : sm10 g) : (Fm.all (.imp f g)).okF :=
  okF10 (show (Fm.all (.imp f g)).okL from ⟨h.ok, k.ok⟩) (by have := h.ht; have := k.ht; simp only [Fm.ht]; omega) (h.few.imp k.few).all (by decide)
end N
set_option Elab.async false
set_option linter.all false
set_option maxRecDepth 100000
namespace N
open PySem PySem.Spec PyProof.Rows L2
/-- the place of a number in a list -/
def idxL : List Nat → Nat → Nat
  | [], _ => 0
  | a :: l, x => if a = x then 0 else idxL l x + 1
/-- a point and all beneath it -/
def keptL (w : Wb) (k : Nat) : List Nat := (bensF w.below).getD k [] ++ [k]
def Wb.cut (w : Wb) (k : Nat) : Wb := ⟨(keptL w k).map fun o => (w.below.getD o []).map (idxL (keptL w k)), (keptL w k).map fun o => w.atoms.getD o ""⟩
def Wb.top (w : Wb) (s : Str) (r : List Nat) : Wb := ⟨w.below ++ [r], w.atoms ++ [s]⟩
def Wb.join (w u : Wb) : Wb := ⟨w.below ++ u.below.map fun r => r.map (w.below.length + ·), w.atoms ++ u.atoms⟩
end N
set_option Elab.async false
set_option linter.all false
set_option maxRecDepth 100000
set_option Elab.async false
set_option linter.all false
set_option maxRecDepth 100000
set_option maxHeartbeats 1000000
set_option Elab.async false
set_option linter.all false
set_option maxRecDepth 100000
set_option maxHeartbeats 1000000
namespace N
open PySem PySem.Spec PyProof.Rows L2
open C8 (Cal Met Mak InsC pe_c pe_mt pe_mt0 pe_mk)
abbrev tx (f : Fm) : List Nat := lets f.spell
theorem tx_imp (a b : Fm) : tx (.imp a b) = 40 :: (tx a ++ (32 :: 62 :: 32 :: (tx b ++ [41]))) := by
  show lets ((("(" ++ a.spell ++ " > " ++ b.spell ++ ")" : Str))) = _
  simp only [lets, TL.tl_append]
  show (([40] ++ tx a) ++ [32, 62, 32] ++ tx b) ++ [41] = _
  simp
theorem tx_all (a : Fm) : tx (.all a) = 97 :: 108 :: 108 :: 32 :: tx a := by
  show lets ("all " ++ a.spell) = _
  simp only [lets, TL.tl_append]
  rfl
inductive ItP where
  | al | l (b : Fm) | r (a : Fm)
def wt : Fm → Nat
  | .at _ => 1
  | .no => 1
  | .imp a b => 3 + wt a + wt b
  | .all a => 2 + wt a
def wk : List ItP → Nat
  | [] => 0
  | .al :: K => 1 + wk K
  | .l b :: K => 2 + wt b + wk K
  | .r _ :: K => 1 + wk K
abbrev KA := List (ItP × Addr)
def itD : ItP × Addr → D
  | (.al, _) => .str "all"
  | (.l _, q) => .adr q
  | (.r _, q) => .adr q
def stk (K : KA) : List D := (K.map itD).reverse
theorem spell_len : ∀ f : Fm, f.spell.length = f.sz
  | .at _ => rfl
  | .no => rfl
  | .imp a b => by
    have h := congrArg List.length (tx_imp a b)
    have ea := spell_len a
    have eb := spell_len b
    rw [show a.spell.length = (tx a).length from str_len _] at ea
    rw [show b.spell.length = (tx b).length from str_len _] at eb
    rw [show (Fm.imp a b).spell.length = (tx (.imp a b)).length from str_len _, h]
    simp only [List.length_cons, List.length_append, List.length_nil, ea, eb]
    show _ = 5 + a.sz + b.sz
    omega
  | .all a => by
    have h := congrArg List.length (tx_all a)
    have ea := spell_len a
    rw [show a.spell.length = (tx a).length from str_len _] at ea
    rw [show (Fm.all a).spell.length = (tx (.all a)).length from str_len _, h]
    simp only [List.length_cons, ea]
    show _ = 4 + a.sz
    omega
end N
set_option Elab.async false
set_option linter.all false
set_option maxRecDepth 100000
set_option maxHeartbeats 4000000
namespace XE
open PySem PySem.W PySem.Calls PyProof.Rows
abbrev exTail : List Value := [.type "Exception", .type "BaseException", .type "object"]
/-- own classes, then Exception's mro -/
def refsX : List Value → Bool
  | .ref _ :: r => refsX r
  | l => l == exTail
theorem refsX_cases : ∀ l : List Value, refsX l = true → (∃ c r, l = .ref c :: r ∧ refsX r = true) ∨ l = exTail
  | [], e => .inr (beq_iff_eq.mp e)
  | .ref c :: r, e => .inl ⟨c, r, rfl, e⟩
  | .none :: _, e => .inr (beq_iff_eq.mp e)
  | .ellipsis :: _, e => .inr (beq_iff_eq.mp e)
  | .notImplemented :: _, e => .inr (beq_iff_eq.mp e)
  | .bool _ :: _, e => .inr (beq_iff_eq.mp e)
  | .int _ _ :: _, e => .inr (beq_iff_eq.mp e)
  | .float _ _ :: _, e => .inr (beq_iff_eq.mp e)
  | .str _ _ :: _, e => .inr (beq_iff_eq.mp e)
  | .bytes _ _ :: _, e => .inr (beq_iff_eq.mp e)
  | .type _ :: _, e => .inr (beq_iff_eq.mp e)
  | .builtin _ :: _, e => .inr (beq_iff_eq.mp e)
theorem refsX_pass (self : Value) : ∀ l : List Value, refsX l = true → refuseLoop self "__setattr__" l = pure () := by
  intro l
  induction l with
  | nil => intro e; exact absurd e (by decide)
  | cons a r ih =>
    intro e
    rcases refsX_cases (a :: r) e with ⟨c, r', q, h⟩ | q
    · obtain ⟨rfl, rfl⟩ := List.cons.inj q
      rw [refuseLoop_ref]; exact ih h
    · rw [q]; exact F.store_Exception.passes self
theorem refsX_contains (X : String) : ∀ l : List Value, refsX l = true → l.contains (.type X) = exTail.contains (.type X) := by
  intro l
  induction l with
  | nil => intro e; exact absurd e (by decide)
  | cons a r ih =>
    intro e
    rcases refsX_cases (a :: r) e with ⟨c, r', q, h⟩ | q
    · obtain ⟨rfl, rfl⟩ := List.cons.inj q
      rw [List.contains_cons, ih h]; rfl
    · rw [q]
theorem refsX_ne {l : List Value} (e : refsX l = true) : l.isEmpty = false := by
  cases l with
  | nil => exact absurd e (by decide)
  | cons _ _ => rfl
section
open Builtin Builtin.ObjectAttr
variable {prog : Program} {w : World} {A : Around} {E : Value → Shared → Prop} {R : Result → Shared → Prop} {hp : Heap} {g : Array GenState} {d : Drawn} {t : Nat} {os : OsState}
theorem osa_base {K : W.Frag} {name : Str} {tk : Tok} {v : Value} {x C : Addr} {ox : Obj} {od : Option Obj} {cd : ClassData}
    (X : K.In hp) (I : W.InstAt hp x ox C od) (hcd : W.clsIn K C = some cd) (hm : refsX cd.mro = true) (ha : W.findIn K (.ref C) name = some none)
    (hq : wpAny (model prog w) A.in1 (storeInOwnDict (.ref x) (.ref C) (.str name tk) name v false)
      (fun fin s' => match fin with | .done f => R (.ok f) s' | .again c' => c'.quiet = true ∧ codeAny (model prog w) A c' R s') (fun e s' => R (.error e) s') ⟨hp, g, d, t, os⟩) :
    codeAny (model prog w) A (.call (.builtin "object.__setattr__") ⟨[.ref x, .str name tk, v], []⟩) R ⟨hp, g, d, t, os⟩ := by
  have SF := F.store_object
  have ne := refsX_ne hm
  have hob : cd.mro.contains (.type "object") = true := (refsX_contains "object" _ hm).trans (by decide +kernel)
  have sub : W.Looks (model prog w) hp (isInstance (.ref x) (.type "object")) true := I.type.andThen (W.looks_mroIn X (by unfold W.mroIn; rw [hcd, Option.bind_some, if_neg (by rw [ne]; decide), hob]))
  refine codeAny_call_builtin SF.slot.plain SF.entry (@W.check_slot (model prog w) _ _ ⟨hp, g, d, t, os⟩ "object.__setattr__" "object" "__setattr__" (.ref x) [.str name tk, v] [] _ SF.kind SF.split sub (SF.args (.ref x) (.str name tk) v) ?_)
  have hmr : W.Looks (model prog w) hp (mroOf (.ref C)) cd.mro := (W.looks_clsIn X hcd).andThen .now
  have L3 : W.Looks (model prog w) hp (storeTaker? none) none := .now
  rw [W.osa_eq, refuse_eq]
  refine wpAny_bind (wpAny_bind (I.type.at (wpAny_bind (hmr.at ?_))))
  rw [refsX_pass _ _ hm]
  refine wpAny_pure (wpAny_bind (I.type.at (wpAny_bind ((W.looks_findIn X ha).at (wpAny_bind (L3.at ?_))))))
  exact hq
theorem osa_new {K : W.Frag} {name : Str} {tk : Tok} {v : Value} {x C : Addr} {fv : Array Value} {cd : ClassData}
    (X : K.In hp) (hx : hp.get? x = some { cls := .ref C, data := .fields fv }) (hcd : W.clsIn K C = some cd) (hm : refsX cd.mro = true) (hh : cd.hasDict = true) (ha : W.findIn K (.ref C) name = some none)
    (hq : ∀ h' tk' dx, (∀ b o, b ≠ x → hp.get? b = some o → h'.get? b = some o) → hp.objs.size ≤ dx → dx ≠ x → h'.get? x = some { cls := .ref C, dict := some dx, data := .fields fv } →
      h'.Ns1 dx (fun y => if y = name then some v else none) → R (.ok (.ret .none)) ⟨h', g, d, tk', os⟩) :
    codeAny (model prog w) A (.call (.builtin "object.__setattr__") ⟨[.ref x, .str name tk, v], []⟩) R ⟨hp, g, d, t, os⟩ := by
  have I : W.InstAt hp x { cls := .ref C, data := .fields fv } C none := ⟨hx, rfl, rfl, trivial⟩
  have hxs : x ≠ hp.objs.size := Nat.ne_of_lt (Heap.lt_size hx)
  refine osa_base X I hcd hm ha ?_
  have hcls : W.Looks (model prog w) hp (classData C) cd := W.looks_clsIn X hcd
  obtain ⟨nm, bs, mro, ns, qn, hd, sn, sb, ab, col, del⟩ := cd
  dsimp only at hh
  subst hh
  unfold storeInOwnDict ownDictForStores
  repeat (first | with_reducible refine HandSPX.store_in_new ?_ ?_ | with_reducible refine wpAny_loadPart_at hx ?_ | with_reducible refine hcls.at ?_ | wp_step)
  · exact ⟨_, #[], _, (Heap.get?_update_ne _ _ _ _ hxs.symm).trans (Heap.get?_push_at rfl rfl), rfl, fun e he => absurd he (by simp), fun _ => rfl⟩
  · intro h' tk' hn' hs
    have hx₁ : (hp.push { cls := .type "dict", data := .dict #[] }).get? x = some { cls := .ref C, data := .fields fv } := Heap.get?_push_of_some _ hx
    refine hq h' tk' hp.objs.size (fun b o hb ho => ?_) (Nat.le_refl _) hxs.symm ?_ hn'
    · exact (hs.2 b (Nat.ne_of_lt (Heap.lt_size ho))).trans ((Heap.get?_update_ne _ _ _ _ hb).trans (Heap.get?_push_of_some _ ho))
    · exact (hs.2 x hxs).trans (Heap.get?_update_self _ hx₁ rfl)
end
end XE
namespace L2
open PySem PySem.Spec PyProof.Rows
/-- what the written part says of such a class -/
structure OexX (K : PySem.W.Frag) (C : Addr) : Prop where
  cls : ∃ nm q N bs bm sn sub ab col dd k0 k1 k2 k3 k5, K.lookup C = some (excClassObj nm q C N bs bm true sn sub ab col dd k0 k1 k2 k3 k5 "Exception.__new__") ∧ XE.refsX bm = true
  sa : PySem.W.findIn K (.ref C) "__setattr__" = some (some (.builtin "object.__setattr__"))
  exC : PySem.W.subIn K (.ref C) (.type "BaseException") = some true
  tyC : PySem.W.typeIn K (.ref C) = some (.type "type")
  kC : PySem.W.keepIn K (.ref C) = true
section
variable {X : Cx} {pins : List (Addr × Obj)} {σ : St} {H : Hp} {s : Shared} {a C dx : Addr} {f : Str} {y : V} {u : Value} {fs : List (Str × V)} {Q : Unit → Shared → Prop} {E : Value → Shared → Prop} {A : Around}
/-- self.f = y, the first one -/
theorem ostX_new (T : OexX X.K C) (I : Inv X pins σ H s) (e : H a = some (exo a C none)) (hno : PySem.W.findIn X.K (.ref C) f = some none) (ry : RelV y u)
    (h : ∀ dx s', H dx = none → dx ≠ a → Inv X pins σ (upd (upd H dx (exd dx [(f, y)])) a (exo a C (some dx))) s' → Q () s') : wpAny (model X.prog X.w) A (setAttr (.ref a) f u) Q E s := by
  obtain ⟨nm, q, N, bs, bm, sn, sub, ab, col, dd, k0, k1, k2, k3, k5, hC, hbm⟩ := T.cls
  have hcl : PySem.W.clsIn X.K C = some { name := nm, bases := bs, mro := .ref C :: bm, ns := N, qualname := q, hasDict := true, slotNames := sn, subclasses := sub, abstract := ab, collection := col, hasDel := false } := by unfold PySem.W.clsIn; rw [hC] <;> rfl
  obtain ⟨t1, ho⟩ := exo_at I.hok e
  obtain ⟨hp, g, d, t, os⟩ := s
  refine PySem.W.set_plain I.kIn (ox := { cls := .ref C, dict := none, data := .fields #[.ref t1, .none, .none, .none, .bool false, .none] }) (od := none) ⟨ho, rfl, rfl, trivial⟩ T.sa ?_
  refine XE.osa_new I.kIn ho hcl (show XE.refsX (.ref C :: bm) = true from hbm) rfl hno (fun h' tk' dx k dn dne hx hn => ?_)
  have hnd : H dx = none := I.hok.fresh dn
  have nd : ∀ {b : Addr} {o : Obj}, hp.get? b = some o → b ≠ dx := fun {b o} q => Nat.ne_of_lt (Nat.lt_of_lt_of_le (Heap.lt_size q) dn)
  have na : ∀ {b : Addr}, H b = none → b ≠ a := fun {b} n z => by
    rw [z, e] at n
    cases n
  have Un1 : Un X.fs [] H (upd (upd H dx (exd dx [(f, y)])) a (exo a C (some dx))) hp h' := {
    keep := fun b o q n _ _ => k b o (na n) q
    slot := fun b o q n _ _ => ⟨o.slots, k b o (na n) q⟩
    free := fun b o q n _ => by rw [upd_ne (na n), upd_ne (nd q)]; exact n
    there := fun b o q _ => by
      by_cases hb : b = a
      · exact ⟨_, by rw [hb]; exact hx⟩
      · exact ⟨o, k b o hb q⟩
    tups := fun b xs q => by rw [upd_ne (at_ne e q exo_tup), upd_ne (ne_of_none q hnd)]; exact q
    frzs := fun b o v q => by rw [upd_ne (at_ne e q exo_frz), upd_ne (ne_of_none q hnd)]; exact q
    tbls := fun b ps q => ⟨#[], by rw [upd_ne (at_ne e q exo_tbl), upd_ne (ne_of_none q hnd), q]; simp⟩ }
  refine h dx _ hnd dne (I.un (t' := tk') Un1 fun b o q => ?_)
  by_cases hb : b = a
  · subst hb
    rw [upd_same] at q
    cases q
    exact exo_ok hx
  · rw [upd_ne hb] at q
    by_cases hd : b = dx
    · subst hd
      rw [upd_same] at q
      cases q
      exact exd_ok hn (relO_put (fs := []) ry fun g => True.intro)
    · rw [upd_ne hd] at q
      exact (I.hok b o q).stay (fun c v hc z => k c v (by
          rcases hc with hc | hc
          · rw [hc]
            exact hb
          · exact at_ne e hc exo_own) z)
        (fun c hc => by rw [upd_ne (at_ne e hc exo_own), upd_ne (ne_of_none hc hnd)]; exact hc) (fun c xs hc => by rw [upd_ne (at_ne e hc exo_tup), upd_ne (ne_of_none hc hnd)]; exact hc)
/-- Exception.__init__(self, ..): nothing of it is told -/
theorem oinitX_ok {us : List Value} {Q : Value → Shared → Prop} (T : OexX X.K C) (I : Inv X pins σ H s) (e : H a = some (exo a C none)) (hl : us.length ≤ sizeLine) (h : ∀ s', Inv X pins σ H s' → Q .none s') :
    wpAny (model X.prog X.w) A (call (.builtin "Exception.__init__") (.ref a :: us)) Q E s := by
  obtain ⟨nm, q, N, bs, bm, sn, sub, ab, col, dd, k0, k1, k2, k3, k5, hC, hbm⟩ := T.cls
  obtain ⟨t1, ho⟩ := exo_at I.hok e
  obtain ⟨hp, g, d, t, os⟩ := s
  refine wpAny_call (PySem.HandSPX.init_base F.excBase_Exception (fun Y => XE.refsX_contains Y bm hbm) (I.kIn _ _ hC) ho hl fun h' t2 k hx => ?_)
  have J := I.write (t' := t) (x := a) (e := a) (o := exo a C none) (by rw [e]; exact True.intro) (.inl rfl) k ⟨_, hx⟩ (exo_ok hx)
  have eu : upd H a (exo a C none) = H := by
    funext b
    by_cases hb : b = a
    · rw [hb, upd_same, e]
    · rw [upd_ne hb]
  rw [eu] at J
  exact h _ J
end
/-- B.__init__(self, ..), B an own class that takes Exception's -/
def tExI (K : PySem.W.Frag) (ta : TA) : TE := fun σ H Q => ta σ H fun vs H1 => ∃ (a C : Addr) (ws : List V), vs = .ref a :: ws ∧ ws.length ≤ 1000 ∧ OexX K C ∧ H1 a = some (exo a C none) ∧ Q .non H1
/-- self.f = e, the first field -/
def tOsx (K : PySem.W.Frag) (f : Str) (to te : TE) : TS := fun D σ H => te σ H fun y H1 => to σ H1 fun x H2 => ∃ a C : Addr, x = .ref a ∧ OexX K C ∧ PySem.W.findIn K (.ref C) f = some none ∧
  H2 a = some (exo a C none) ∧ ∀ dx, H2 dx = none → dx ≠ a → D.nx σ (upd (upd H2 dx (exd dx [(f, y)])) a (exo a C (some dx)))
/-- what is asked of the base class whose __init__ is called -/
structure BaseX (K : PySem.W.Frag) (B : Addr) : Prop where
  rd : ClX.CRead K B (.type "type")
  ini : PySem.W.findCls K (.ref B) (.type "type") "__init__" = some (.val (.builtin "Exception.__init__"))
section
variable {X : Cx} {o e : Expr} {es : List Expr} {to te : TE} {ta : TA} {f x : Str} {p p' p1 p2 pos : Pos} {B : Addr}
theorem pe_exinit {pl : Sem Bool} (T : BaseX X.K B) (hg : Gl X x) (hm : X.mg x = some (.ref B)) (ha : PA X (e :: es) ta) (hdb : (x == ("__debug__" : Str)) = false := by decide)
    (hc : eval (.Call (.Attribute (.Name x p1) "__init__" p2) (e :: es) [] pos) X.env = (do
      let ov ← eval (.Name x p1) X.env
      standAt p2.atName
      let (f, first) ← holding [ov] (getMethod ov "__init__" pl)
      callWith pos f first (backTo pos (starEach (e :: es) X.env)) (backToKw pos (keywordEach [] X.env))) := by rfl)
    (he : starEach (e :: es) X.env = (false, eval e X.env) :: starEach es X.env := by rfl) (hpl : (backTo pos (starEach es X.env)).any (·.1) = false := by rfl) :
    PE X (.Call (.Attribute (.Name x p1) "__init__" p2) (e :: es) [] pos) (tExI X.K ta) := by
  refine ⟨fun pins s σ H Q I h => ?_⟩
  refine PySem.W.methodCall_KW (ld_glob I hg hm ?_ hdb) hc
  refine PySem.W.method_cls I.kIn T.rd.ga (PySem.W.cls_value I.kIn T.rd.rd T.ini (by decide +kernel) ?_)
  show wpAny _ _ (callWith pos (Value.builtin "Exception.__init__") [] (backTo pos (starEach (e :: es) X.env)) []) _ _ _
  refine PyProof.Rows.callWith_method1 (thn (ha.run pos pins _ σ H _ (I.tok _) h) fun us s1 ⟨vs, H1, I1, r1, a, C, ws, ev, hl, T, ea, q⟩ => ?_) he hpl
  subst ev
  cases r1 with
  | @cons _ u0 _ ur ra rw' =>
    obtain rfl : u0 = Value.ref a := ra
    have hlen : ur.length ≤ sizeLine := by
      rw [← Paired.length rw', sizeLine_eq]
      omega
    exact oinitX_ok T I1 ea hlen fun s' J => ⟨.non, H1, J, rfl, q⟩
theorem ps_osx (ho : PE X o to) (he : PE X e te) (hs : swapsWith e (some (.Attribute o f p')) pos.line X.env = pure false := by rfl) : PS X (.Assign [.Attribute o f p'] e pos) (tOsx X.K f to te) := by
  refine ⟨fun pins s σ H D I h => ?_⟩
  refine plainObj_wpAny_Assign_Attribute (thn (he.run pins s σ H _ I h) fun v s1 ⟨y, H1, I1, r1, q1⟩ => thn (ho.run pins s1 σ H1 _ I1 q1) fun u s2 ⟨x, H2, I2, r2, a, C, ex, T, hno, ea, q⟩ => ?_) hs
  subst ex
  obtain rfl : u = Value.ref a := r2
  exact ostX_new T I2 ea hno r1 fun dx s' n ne J => ⟨σ, _, J, q dx n ne⟩
theorem pmk_oexX {CX : CXT} {x : Str} {C fI : Addr} {k : Nat} {fd : FuncData} {ps : List Str} {sp : Sp} {ds : List Value} {dvs : List V} (T : OexX X.K C) (iC : PySem.W.findIn X.K (.ref C) "__init__" = some (some (.ref fI))) (tI : PySem.W.typeIn X.K (.ref fI) = some (.type "function"))
    (F1 : FnOk X.prog X.w X.K X.mg X.base CX k fI fd ps sp) (hr : Room (k + 1) X.A) (hb : Binds X.K fd ps ds) (hd : Vals dvs ds) (hx : Passes CX X (fun _ _ _ => False)) (hg : Gl X x) (hm : X.mg x = some (.ref C)) (ha : PA X (e :: es) ta)
    (hdb : (x == ("__debug__" : Str)) = false := by decide) (he : starEach (e :: es) X.env = (false, eval e X.env) :: starEach es X.env := by rfl) (hpl : (backTo pos (starEach es X.env)).any (·.1) = false := by rfl) :
    PMk X (.Call (.Name x p) (e :: es) [] pos) (tMkO C sp dvs ta) := by
  intro pins s σ H Q I h
  obtain ⟨nm, q, N, bs, bm, sn, sub, ab, col, dd, k0, k1, k2, k3, k5, hC, hbm⟩ := T.cls
  refine wpAny_Call_Name_kw (ld_glob I hg hm ?_ hdb)
  refine PySem.W.callWith_K (h₀ := X.base) I.ok.mod.kin T.kC (thn (ha.run pos pins s σ H _ I h) fun us s1 ⟨vs, H1, I1, r1, hz, q1⟩ => ⟨I1.kIn, ?_⟩) he hpl
  show wpAny _ _ (call (.ref C) us) _ _ _
  obtain ⟨hp, g, dr, tk, os⟩ := s1
  have hsz : hp.objs.size ≤ hp.objs.size + 1 := Nat.le_succ _
  have hn : H1 (hp.objs.size + 1) = none := I1.hok.fresh hsz
  have hq := q1 (hp.objs.size + 1) hn
  have kk : ∀ b o, hp.get? b = some o → ((hp.push (PySem.W.kdv_tup us)).push (PySem.HandSPX.excO C hp.objs.size)).get? b = some o := fun b o e => Heap.get?_push_of_some _ (Heap.get?_push_of_some _ e)
  have hget : ((hp.push (PySem.W.kdv_tup us)).push (PySem.HandSPX.excO C hp.objs.size)).get? (hp.objs.size + 1) = some (PySem.HandSPX.excO C hp.objs.size) := by heap_get
  have I2 : Inv X pins σ (upd H1 (hp.objs.size + 1) (exo (hp.objs.size + 1) C none)) ⟨(hp.push (PySem.W.kdv_tup us)).push (PySem.HandSPX.excO C hp.objs.size), g, dr, tk, os⟩ :=
    I1.laid (t' := tk) (a := hp.objs.size + 1) (o := exo (hp.objs.size + 1) C none) (h' := (hp.push (PySem.W.kdv_tup us)).push (PySem.HandSPX.excO C hp.objs.size)) kk hsz (exo_ok hget)
  have r2 : Vals (V.ref (hp.objs.size + 1) :: (vs ++ dvs)) (Value.ref (hp.objs.size + 1) :: (us ++ ds)) := .cons rfl (r1.append hd)
  have hl : (Value.ref (hp.objs.size + 1) :: us ++ ds).length = ps.length := by
    have e := r2.length
    rw [F1.len _ _ _ _ hq] at e
    exact e.symm
  have hus : us.length ≤ sizeLine := by
    rw [← Paired.length r1, sizeLine_eq]
    omega
  refine wpAny_call (PySem.HandSPX.call_own F.excBase_Exception (fun Y => XE.refsX_contains Y bm hbm) (I1.kIn _ _ hC) (PySem.W.looks_findIn I1.kIn iC) (fun self => PySem.W.bind_fn I1.kIn self tI) hus
    (codeAny_mono (F1.run _ X.stack _ _ ⟨Value.ref (hp.objs.size + 1) :: us, []⟩ (Value.ref (hp.objs.size + 1) :: (us ++ ds)) _ _ (fun _ _ _ => False) (hr.make C us []) (I2.env0.make C us []) (hb _ (Value.ref (hp.objs.size + 1) :: us) I2.kIn hl) r2 hq) fun r s' hq' => ?_))
  cases r with
  | error er => exact hx pins σ _ _ er s' I2 hq'
  | ok fl =>
    cases fl with
    | ret u =>
      obtain ⟨v, H2, os2, bare2, un2, hok2, rv, ev, d, fs, ea, ed, hd1, q2⟩ := hq'
      subst ev
      obtain ⟨h2, g2, d2, t2, os'⟩ := s'
      exact ⟨rv, mk_end (raises_own T.exC T.tyC) I1 hsz kk un2 hok2 os2 bare2 ea ed hd1 q2⟩
    | next => exact False.elim hq'
    | brk => exact False.elim hq'
    | cont => exact False.elim hq'
end
end L2
set_option Elab.async false
set_option linter.all false
set_option maxRecDepth 100000
set_option maxHeartbeats 4000000
namespace N
open PySem PySem.Spec PyProof.Rows L2
open C8 (Cal Met Mak pe_c pe_mt pe_mt0 pe_mk)
/-- what __init__ of an error class does -/
def spEr (C : Addr) (f : Str) : Sp := fun vs H Q _ => ∃ a y, vs = [.ref a, y] ∧ H a = some (exo a C none) ∧ ∀ dx, H dx = none → dx ≠ a → Q .non (upd (upd H dx (exd dx [(f, y)])) a (exo a C (some dx)))
structure ErC (K : PySem.W.Frag) (C : Addr) (f : Str) : Prop where
  oex : OexX K C
  xf : XfC K C
  no : PySem.W.findIn K (.ref C) f = some none
structure Err (P : Program) (w : World) (K : PySem.W.Frag) (mg : Str → Option Value) (base : Heap) (k : Nat) (x : Str) (C : Addr) (f : Str) : Prop where
  ex : ∃ (g : Addr) (fd : FuncData) (ps : List Str), ErC K C f ∧ PySem.W.findIn K (.ref C) "__init__" = some (some (.ref g)) ∧ PySem.W.typeIn K (.ref g) = some (.type "function") ∧ FnOk P w K mg base CX0 k g fd ps (spEr C f) ∧ Binds K fd ps [] ∧ mg x = some (.ref C)
/-- the __init__ of an error class, by its body -/
theorem errD {P : Program} {w : World} {K : PySem.W.Frag} {mg : Str → Option Value} {base : Heap} {x qual f : Str} {C g : Addr} {st : Stmt} {fd : FuncData} {N ps : List Str} (er : ErC K C f) (iC : PySem.W.findIn K (.ref C) "__init__" = some (some (.ref g))) (tI : PySem.W.typeIn K (.ref g) = some (.type "function"))
    (hm : mg x = some (.ref C)) (Fn : Fun K "__init__" qual st g fd) (Sc : FnScope N ps (defScope st)) (hN : N = [("self" : Str), f]) (hps : ps = [("self" : Str), f])
    (hb : ∀ (kV doc pm : Value) (an : Option Addr) (cdv ct : Value) (us : List Value), us.length = ps.length → bindArgs (PySem.W.fnOf "__init__" qual (defArgs st) (defBody st) (defScope st) .none kV doc pm an cdv ct) ⟨us, []⟩ = pure (ps.zip us))
    (body : ∀ (cdv : Value) (A : Around) (outer : List Env) (s : Shared) (H : Hp) (E : XK), ∃ m,
      PSs (cxOf CX0 P w K mg base N qual (defScope st) g cdv A outer s H E).nox (defBody st) (tSeq (tDrop (tExI K (tCons (tVar 0) (tCons (tC (.str m)) tNil)))) (tOsx K f (tVar 0) (tVar 1)))) :
    Err P w K mg base 1 x C f := by
  subst hN hps
  refine ⟨g, fd, _, er, iC, tI, Fn.ok Sc (fun vs H Q E ⟨a, y, e, _⟩ => by rw [e]; rfl) fun cdv A outer s H vs Q E hr h => ?_, Fn.binds hb, hm⟩
  obtain ⟨a, y, e, ha, q⟩ := h
  subst e
  obtain ⟨m, b⟩ := body cdv A outer s H E
  refine ⟨_, b, ?_⟩
  refine ⟨_, rfl, ?_⟩
  refine ⟨a, C, [_], rfl, by simp, er.oex, ha, ?_⟩
  exact ⟨_, rfl, _, rfl, a, C, rfl, er.oex, er.no, ha, fun dx h1 h2 => q dx h1 h2⟩
/-- a def that may raise -/
structure CalX (P : Program) (w : World) (K : PySem.W.Frag) (mg : Str → Option Value) (base : Heap) (k : Nat) (x : Str) (sp : Sp) : Prop where
  ex : ∃ (f : Addr) (fd : FuncData) (ps : List Str), FnOk P w K mg base (L2.CX P w) k f fd ps sp ∧ mg x = some (.ref f) ∧ PySem.W.keepIn K (.ref f) = true ∧ Binds K fd ps []
/-- a class whose __init__ may raise -/
structure MakX (P : Program) (w : World) (K : PySem.W.Frag) (mg : Str → Option Value) (base : Heap) (k : Nat) (x : Str) (C : Addr) (n : Nat) (ks : List Str) (gV : List V → List V → List V) (sp : Sp) : Prop where
  ex : ∃ (f : Addr) (fd : FuncData) (ps : List Str) (g : List Value → List Value → List Value), Mk K C f ∧ FnOk P w K mg base (L2.CX P w) k f fd ps sp ∧ mg x = some (.ref C) ∧ Binds K fd ps [] ∧ KBn K fd ps 1 ks g gV ∧ n = ks.length
def tCmS (C : Addr) (sp : Sp) (E : L2.St → XK) (ta : TE) (t : TA) : TE := fun σ H Q => ta σ H fun x H1 => x = .ref C ∧ t σ H1 fun vs H2 => sp (.ref C :: vs) H2 Q (E σ)
def tCmKS (C : Addr) (n : Nat) (sp : Sp) (gV : List V → List V → List V) (E : L2.St → XK) (ta : TE) (tk : TA) : TE := fun σ H Q => ta σ H fun x H1 => x = .ref C ∧ tk σ H1 fun zs H2 => zs.length = n ∧ sp (gV [.ref C] zs) H2 Q (E σ)
def tMakS (C : Addr) (sp : Sp) (E : L2.St → XK) (t : TA) : TE := fun σ H Q => t σ H fun vs H1 => ∀ x dx, H1 x = none → H1 dx = none → dx ≠ x →
  sp (.ref x :: vs) (upd (upd H1 dx (.own x)) x (.ins C dx [])) (fun v H2 => v = .non ∧ Q (.ref x) H2) (E σ)
def tMakKS (C : Addr) (n : Nat) (sp : Sp) (gV : List V → List V → List V) (E : L2.St → XK) (tk : TA) : TE := fun σ H Q => tk σ H fun zs H2 => zs.length = n ∧ ∀ x dx, H2 x = none → H2 dx = none → dx ≠ x →
  sp (gV [.ref x] zs) (upd (upd H2 dx (.own x)) x (.ins C dx [])) (fun v H3 => v = .non ∧ Q (.ref x) H3) (E σ)
section
variable {X : Cx} {W : WX} {k j n : Nat} {x m f : Str} {C : Addr} {sp : Sp} {e o : Expr} {es : List Expr} {t ta tk : TA} {te : TE} {p pos apos : Pos} {ks : List Str} {gV : List V → List V → List V} {kws : List Keyword}
theorem pmk_err (c : Err X.prog X.w X.K X.mg X.base k x C f) (hr : Room j X.A) (hk : k + 1 ≤ j) (hg : Gl X x) (ha : PA X (e :: es) ta)
    (hdb : (x == ("__debug__" : Str)) = false := by decide) (he : starEach (e :: es) X.env = (false, eval e X.env) :: starEach es X.env := by rfl) (hpl : (backTo pos (starEach es X.env)).any (·.1) = false := by rfl) :
    PMk X (.Call (.Name x p) (e :: es) [] pos) (tMkO C (spEr C f) [] ta) := by
  obtain ⟨g, fd, ps, E, iC, tI, F1, hb, hm⟩ := c.ex
  exact pmk_oexX (sp := spEr C f) (dvs := []) E.oex iC tI F1 (hr.mono hk) hb .nil C8.pass0 hg hm ha hdb he hpl
theorem pe_cX (c : CalX X.prog X.w X.K X.mg X.base k x sp) (hr : Room j X.A) (hk : k ≤ j) (hg : Gl X x) (tk : Takes X W) (ha : PA X (e :: es) t)
    (hdb : (x == ("__debug__" : Str)) = false := by decide) (he : starEach (e :: es) X.env = (false, eval e X.env) :: starEach es X.env := by rfl) (hpl : (backTo pos (starEach es X.env)).any (·.1) = false := by rfl) :
    PE X (.Call (.Name x p) (e :: es) [] pos) (tCallS sp (WE W) t) := by
  obtain ⟨f, fd, ps, F, hm, kp, b⟩ := c.ex
  exact pe_callS F (hr.mono hk) hg hm kp b (fun σ => passAt tk σ) ha hdb he hpl
/-- how a run of a raising def ends, seen from the caller -/
theorem endS {pins : List (Addr × Obj)} {σ : L2.St} {H : Hp} {s : Shared} {Q : VK} (tk : Takes X W) (I : Inv X pins σ H s) {r : Result} {s' : Shared} (hq : CR (L2.CX X.prog X.w) X.stack X.prog X.w H s Q (WE W σ) r s') :
    match r with | .ok (.ret u) => EP X pins σ Q u s' | .ok _ => False | .error e => X.xe e s' := by
  cases r with
  | error e => exact passAt tk σ pins H s e s' I hq
  | ok fl =>
    cases fl with
    | ret u => exact I.after hq
    | next => exact False.elim hq
    | brk => exact False.elim hq
    | cont => exact False.elim hq
theorem pe_mkX (c : MakX X.prog X.w X.K X.mg X.base k x C n ks gV sp) (hr : Room j X.A) (hk : k + 1 ≤ j) (hg : Gl X x) (tkX : Takes X W) (ha : PA X (e :: es) t)
    (hdb : (x == ("__debug__" : Str)) = false := by decide) (he : starEach (e :: es) X.env = (false, eval e X.env) :: starEach es X.env := by rfl) (hpl : (backTo pos (starEach es X.env)).any (·.1) = false := by rfl) :
    PE X (.Call (.Name x p) (e :: es) [] pos) (tMakS C sp (WE W) t) := by
  obtain ⟨f, fd, ps, g, M, F, hm, hb, _⟩ := c.ex
  refine ⟨fun pins s σ H Q I h => ?_⟩
  refine wpAny_Call_Name_kw (ld_glob I hg hm ?_ hdb)
  refine PySem.W.callWith_K (h₀ := X.base) I.ok.mod.kin M.kp (thn (ha.run pos pins s σ H _ I h) fun us s1 ⟨vs, H1, I1, r, q⟩ => ⟨I1.kIn, ?_⟩) he hpl
  have hq := q (s1.heap.objs.size + 1) s1.heap.objs.size (I1.hok.fresh (Nat.le_succ _)) (I1.hok.fresh (Nat.le_refl _)) (Nat.ne_of_lt (Nat.lt_succ_self _))
  have I2 := Inv.made (C := C) I1
  have r2 : Vals (V.ref (s1.heap.objs.size + 1) :: vs) (Value.ref (s1.heap.objs.size + 1) :: us) := .cons rfl r
  have hl : (Value.ref (s1.heap.objs.size + 1) :: us).length = ps.length := by rw [← r2.length, F.len _ _ _ _ hq]
  have hbi := hb _ (Value.ref (s1.heap.objs.size + 1) :: us) I2.kIn (by rw [List.append_nil]; exact hl)
  rw [List.append_nil] at hbi
  refine wpAny_call (make_map (f := f) I1.kIn M.makes M.init (beq_iff_eq.mp M.fn) (codeAny_mono (F.run _ X.stack _ _ ⟨Value.ref (s1.heap.objs.size + 1) :: us, []⟩ (Value.ref (s1.heap.objs.size + 1) :: us) _ _ (WE W σ) ((hr.mono hk).make C us [])
    (I2.env0.make C us []) hbi r2 hq) fun r s' hq' => ?_))
  have := endS tkX I2 hq'
  cases r with
  | error e => exact this
  | ok fl =>
    cases fl with
    | ret u =>
      obtain ⟨v, H', I3, rv, ev, q3⟩ := this
      subst ev
      exact ⟨rv, V.ref (s1.heap.objs.size + 1), H', I3, rfl, q3⟩
    | next => exact False.elim this
    | brk => exact False.elim this
    | cont => exact False.elim this
theorem pe_mkkX (c : MakX X.prog X.w X.K X.mg X.base k x C n ks gV sp) (hr : Room j X.A) (hk : k + 1 ≤ j) (hg : Gl X x) (tkX : Takes X W) (hkw : PK X kws tk)
    (hall : (backToKw pos (keywordEach kws X.env)).all (·.1.isSome) = true := by rfl) (hks : (backToKw pos (keywordEach kws X.env)).filterMap (·.1) = ks := by rfl)
    (hpl : ((backTo pos (starEach [] X.env)).any (·.1) || (backToKw pos (keywordEach kws X.env)).any (·.1.isNone)) = false := by rfl) (hdb : (x == ("__debug__" : Str)) = false := by decide) :
    PE X (.Call (.Name x p) [] kws pos) (tMakKS C n sp gV (WE W) tk) := by
  obtain ⟨f, fd, ps, g, M, F, hm, _, hb, hn⟩ := c.ex
  refine ⟨fun pins s σ H Q I h => ?_⟩
  refine wpAny_Call_Name_kw (ld_glob I hg hm ?_ hdb)
  refine PySem.W.callWith_of (P := fun h => X.K.In h) hpl (PySem.W.keeps_K M.kp) (evalArgs_kw2_nil hall ?_)
  refine thn (hkw.run pos pins s σ H _ I h) fun ws s1 ⟨zs, H1, I1, rz, l2, q⟩ => ⟨I1.kIn, ?_⟩
  rw [hks]
  have hq := q (s1.heap.objs.size + 1) s1.heap.objs.size (I1.hok.fresh (Nat.le_succ _)) (I1.hok.fresh (Nat.le_refl _)) (Nat.ne_of_lt (Nat.lt_succ_self _))
  have I2 := Inv.made (C := C) I1
  have r1 : Vals [V.ref (s1.heap.objs.size + 1)] [Value.ref (s1.heap.objs.size + 1)] := .cons rfl .nil
  have r2 := hb.rel r1 rz
  refine wpAny_call (make_map (f := f) I1.kIn M.makes M.init (beq_iff_eq.mp M.fn) (codeAny_mono (F.run _ X.stack _ _ ⟨[Value.ref (s1.heap.objs.size + 1)], ks.zip ws⟩ (g [Value.ref (s1.heap.objs.size + 1)] ws) _ _ (WE W σ) ((hr.mono hk).make C [] (ks.zip ws))
    (I2.env0.make C [] (ks.zip ws)) (hb.to _ [Value.ref (s1.heap.objs.size + 1)] ws I2.kIn rfl (rz.length.symm.trans (l2.trans hn))) r2 hq) fun r s' hq' => ?_))
  have := endS tkX I2 hq'
  cases r with
  | error e => exact this
  | ok fl =>
    cases fl with
    | ret u =>
      obtain ⟨v, H', I3, rv, ev, q3⟩ := this
      subst ev
      exact ⟨rv, V.ref (s1.heap.objs.size + 1), H', I3, rfl, q3⟩
    | next => exact False.elim this
    | brk => exact False.elim this
    | cont => exact False.elim this
end
end N
set_option Elab.async false
set_option linter.all false
set_option maxRecDepth 100000
set_option maxHeartbeats 1000000
namespace N
open PySem PySem.Spec PyProof.Rows L2
/-- how an exception leaves: the class, the place of its dict, slots, owned cells (its dict among them) -/
abbrev EX := Nat → Addr → Gm → Om → Prop
/-- the dict of an exception of the class c: none for the classes from 100 on, which keep no fields -/
def dq (c : Nat) (d : Addr) : Option Addr := match Nat.ble 100 c with
  | true => none
  | false => some d
abbrev FX := List D → Om → (D → Om → Prop) → (Nat → Addr → Om → Prop) → Prop
section
variable (F : FmKit) (T : Kx)
def XOk (C H : Hp) (ex : EX) (W0 : WX) : Prop := ∀ c d G W H' O' σ, ex c d G W → Nx F T C W H H' O' → Lo F T H' G σ → W0 (.ref (T.cl c)) (dq c d) σ (ov O' H')
def EvX (W0 : WX) (te : TE) (G : Gm) (W : Om) (R : D → Om → Prop) (ex : EX) : Prop :=
  ∀ (C H O : Hp) (σ : L2.St), Wd F T C G W H O σ → XOk F T C H ex W0 → ∀ Q : VK, (∀ d W' H' O' v, R d W' → Nx F T C W' H H' O' → Den F T H' d v → Q v (ov O' H')) → te σ (ov O H) Q
def SwX (W0 : WX) (ts : TS) (G : Gm) (W : Om) (E : En) (ex : EX) : Prop :=
  ∀ (C H O : Hp) (σ : L2.St), Wd F T C G W H O σ → XOk F T C H ex W0 → ∀ B : Ends, EnOk F T C H E B → ts B σ (ov O H)
def spX (S : FX) : Sp := fun vs X Q E => ∃ (ds : List D) (W : Om) (C H O : Hp) (post : D → Om → Prop) (ex : Nat → Addr → Om → Prop), X = ov O H ∧ Dis O H ∧ Same C O ∧ Ow F T H C O W ∧ DenL F T H ds vs ∧ S ds W post ex ∧
  (∀ d W' H' O' v, post d W' → Nx F T C W' H H' O' → Den F T H' d v → Q v (ov O' H')) ∧ ∀ c d W' H' O', ex c d W' → Nx F T C W' H H' O' → E (.ref (T.cl c)) (dq c d) (ov O' H')
end
section
variable {F : FmKit} {T : Kx} {C H H' O O' : Hp} {G : Gm} {W W' : Om} {σ : L2.St} {a p : Addr} {od : OD} {d : D} {l : List D}
  {te ta tb : TE} {t u : TT} {R R' : D → Om → Prop} {Z : Bool → Om → Prop} {tr tk : TA} {ts tz : TS} {En1 E : En} {ex ex' : EX} {W0 : WX} {S : FX}
theorem XOk.up (h : XOk F T C H ex W0) (e : Same H H') : XOk F T C H' ex W0 := fun c d G W H2 O' σ x n l => h c d G W H2 O' σ x ⟨e.trans n.ext, n.dis, n.oc, n.own⟩ l
theorem evx_of (h : Ev F T te G W R) : EvX F T W0 te G W R ex := fun C H O σ w _ Q q => h C H O σ w Q q
theorem swx_of (h : Sw F T ts G W E) : SwX F T W0 ts G W E ex := fun C H O σ w _ B b => h C H O σ w B b
theorem sw_ofX (h : SwX F T W0 ts G W E fun _ _ _ _ => False) : Sw F T ts G W E := fun C H O σ w B b => h C H O σ w (fun _ _ _ _ _ _ _ z => z.elim) B b
theorem XOk.imp (h : XOk F T C H ex' W0) (i : ∀ c d G W, ex c d G W → ex' c d G W) : XOk F T C H ex W0 := fun c d G W H2 O' σ x n l => h c d G W H2 O' σ (i c d G W x) n l
theorem evx_fz (h : EvX F T W0 te G W (Fz F R) ex) : EvX F T W0 te G W R ex := fun C H O σ w x Q q => h C H O σ w x Q fun d W' H' O' v ⟨a, od, W2, d', e, hp, z, r⟩ n k => by
  subst e
  have k : v = .ref a := k
  subst k
  obtain ⟨o, _, n2, eo, k2, _⟩ := n.freeze hp z
  rw [eo]
  exact q d' W2 _ _ _ r n2 k2
theorem swx_seq (h : SwX F T W0 ts G W { E with nx := fun G' W' => SwX F T W0 tz G' W' E ex } ex) : SwX F T W0 (tSeq ts tz) G W E ex := fun C H O σ w x B b =>
  h C H O σ w x { B with nx := tz B } ⟨fun G' W' H' O' σ' a n l => a C H' O' σ' ⟨n.dis, n.oc, l, n.own⟩ (x.up n.ext) B (b.up n.ext), b.rt, b.bk, b.ct⟩
theorem swx_if (h : EvT F T t G W fun c W' => if c = true then SwX F T W0 ts G W' E ex else SwX F T W0 tz G W' E ex) : SwX F T W0 (tIfS t ts tz) G W E ex := fun C H O σ w x B b =>
  h C H O σ w _ fun c W' H' O' r n => by
    cases c with
    | true => exact r C H' O' σ (w.step n) (x.up n.ext) B (b.up n.ext)
    | false => exact r C H' O' σ (w.step n) (x.up n.ext) B (b.up n.ext)
theorem swx_set {i : Nat} (h : EvX F T W0 te G W (fun d W' => E.nx (G.set i (some d)) W') ex) : SwX F T W0 (tAsg te (gName i)) G W E ex := fun C H O σ w x B b =>
  h C H O σ w x _ fun d W' H' O' v r n k => b.nx _ W' H' O' _ r n ((w.loc.mono n.ext).set k)
theorem swx_asg {g : TG} (h : EvX F T W0 te G W (fun d W' => Ta F T g d G W' fun G2 W2 => E.nx G2 W2) ex) : SwX F T W0 (tAsg te g) G W E ex := fun C H O σ w x B b =>
  h C H O σ w x _ fun d W' H' O' v r n k => r C H' O' σ (w.step n) v k _ fun G2 W2 H2 O2 σ2 r2 n2 l2 => b.nx G2 W2 H2 O2 σ2 r2 (n.trans n2) l2
theorem swx_ret (h : EvX F T W0 te G W E.rt ex) : SwX F T W0 (tRet te) G W E ex := fun C H O σ w x B b =>
  h C H O σ w x _ fun d W' H' O' v r n k => b.rt d W' H' O' v r n k
theorem swx_drop (h : EvX F T W0 te G W (fun _ W' => E.nx G W') ex) : SwX F T W0 (tDrop te) G W E ex := fun C H O σ w x B b =>
  h C H O σ w x _ fun d W' H' O' v r n k => b.nx G W' H' O' σ r n (w.loc.mono n.ext)
theorem swx_next (h : E.nx G W) : SwX F T W0 tNext G W E ex := swx_of (sw_next h)
theorem swx_brk (h : E.bk G W) : SwX F T W0 tBreak G W E ex := swx_of (sw_brk h)
theorem swx_cont (h : E.ct G W) : SwX F T W0 tCont G W E ex := swx_of (sw_cont h)
theorem swx_retN (h : E.rt .non W) : SwX F T W0 tRetN G W E ex := swx_of (sw_retN h)
theorem swx_par {i j : Nat} (h : EvA F T tr G W fun ds W' => ∃ d1 d2, ds = [d1, d2] ∧ E.nx ((G.set i (some d1)).set j (some d2)) W') : SwX F T W0 (tPar i j tr) G W E ex := swx_of (sw_par h)
theorem swx_fld {n : Str} (h : Ev F T tb G W fun z W1 => Ev F T ta G W1 fun d W2 => Rcv F T d z n W2 (E.nx G)) : SwX F T W0 (sFld T.K ta tb n) G W E ex := swx_of (sw_fld h)
theorem swx_drp {W2 : Om} (hs : W2.Sublist W) (h : SwX F T W0 ts G W2 E ex) : SwX F T W0 ts G W E ex := fun C H O σ w x B b => h C H O σ ⟨w.dis, w.oc, w.loc, w.own.sub hs⟩ x B b
theorem swx_for {wi : TI} {g : TG} (h : EvI F T wi G W fun ds W1 => ∃ I : Nat → Gm → Om → Prop, I 0 G W1 ∧
      (∀ i d G' W', ds[i]? = some d → I i G' W' → Tg F T g d G' fun G2 => SwX F T W0 ts G2 W' { E with nx := I (i + 1), ct := I (i + 1), bk := E.nx } ex) ∧ (∀ G' W', I ds.length G' W' → E.nx G' W')) :
    SwX F T W0 (tFor wi g ts) G W E ex := fun C H O σ w x B b =>
  h C H O σ w _ fun J ds W1 H1 O1 ⟨I, i0, turn, fin⟩ n1 wk => by
    refine ⟨fun i m σ' X => m = ds.length - i ∧ i ≤ ds.length ∧ ∃ G' W' H' O', X = ov O' H' ∧ Nx F T C W' H1 H' O' ∧ Lo F T H' G' σ' ∧ I i G' W', ⟨ds.length, by simp, Nat.zero_le _, G, W1, H1, O1, rfl, ⟨Same.refl _, n1.dis, n1.oc, n1.own⟩, w.loc.mono n1.ext, i0⟩, ?_⟩
    rintro i m σ' X ⟨rfl, hi, G', W', H', O', rfl, n, l, ii⟩
    have k := wk i H' O' n.ext n.dis
    by_cases hlt : i < ds.length
    · obtain ⟨k1, k2⟩ := k.1 ds[i] (by simp [hlt])
      refine .inr ⟨k1, fun σ2 X2 => ∃ G2 W2 H2 O2, X2 = ov O2 H2 ∧ Nx F T C W2 H1 H2 O2 ∧ Lo F T H2 G2 σ2 ∧ I (i + 1) G2 W2, fun σ2 X2 ⟨G2, W2, H2, O2, e, n2, l2, i2⟩ => ⟨ds.length - (i + 1), by omega, rfl, hlt, G2, W2, H2, O2, e, n2, l2, i2⟩, fun x2 X2 y => ?_⟩
      obtain ⟨H2, s2, d2, rfl, kx⟩ := k2 x2 X2 y
      refine turn i ds[i] G' W' (by simp [hlt]) ii H2 _ σ' x2 (l.mono s2) d2.same kx _ fun G3 σ3 sw l3 => ?_
      refine sw C H2 O' σ3 ⟨d2, n.oc, l3, n.own.mono s2⟩ (x.up ((n1.ext.trans n.ext).trans s2)) _ ⟨fun G4 W4 H4 O4 σ4 a n4 l4 => ⟨G4, W4, H4, O4, rfl, ⟨(n.ext.trans s2).trans n4.ext, n4.dis, n4.oc, n4.own⟩, l4, a⟩, ?_, ?_, fun G4 W4 H4 O4 σ4 a n4 l4 => ⟨G4, W4, H4, O4, rfl, ⟨(n.ext.trans s2).trans n4.ext, n4.dis, n4.oc, n4.own⟩, l4, a⟩⟩
      · exact fun d W4 H4 O4 v a n4 k4 => b.rt d W4 H4 O4 v a ⟨((n1.ext.trans n.ext).trans s2).trans n4.ext, n4.dis, n4.oc, n4.own⟩ k4
      · exact fun G4 W4 H4 O4 σ4 a n4 l4 => b.nx G4 W4 H4 O4 σ4 a ⟨((n1.ext.trans n.ext).trans s2).trans n4.ext, n4.dis, n4.oc, n4.own⟩ l4
    · have e : i = ds.length := by omega
      subst e
      exact .inl ⟨k.2 rfl, b.nx G' W' H' O' σ' (fin G' W' ii) ⟨n1.ext.trans n.ext, n.dis, n.oc, n.own⟩ l⟩
theorem frame {Wc Wf : Om} (di : Dis O H) (oc : Same C O) (ow : Ow F T H C O (Wc ++ Wf)) : ∃ C', Same C' O ∧ Ow F T H C' O Wc ∧ ∀ W' H' O', Nx F T C' W' H H' O' → Nx F T C (W' ++ Wf) H H' O' := by
  have nd := ow.nd
  have nd2 : (akeys Wc ++ akeys Wf).Nodup := by
    have e : akeys (Wc ++ Wf) = akeys Wc ++ akeys Wf := by simp [akeys]
    rw [← e]
    exact nd
  rw [List.nodup_append] at nd2
  obtain ⟨ndc, ndf, dj⟩ := nd2
  have inF : ∀ b, b ∈ akeys Wf → ∃ od, (b, od) ∈ Wf := fun b hb => by
    obtain ⟨x, hx, e⟩ := List.mem_map.mp hb
    exact ⟨x.2, by rw [← e]; exact hx⟩
  have atF : ∀ b od, (b, od) ∈ Wf → C b = none ∧ OdAt F T H (O b) od := fun b od m => ow.at_ b od (List.mem_append_right _ m)
  refine ⟨fun b => if b ∈ akeys Wf then O b else C b, fun b o e => ?_, ⟨ndc, fun a od m => ?_⟩, fun W' H' O' n => ⟨n.ext, n.dis, fun b o e => ?_, ⟨?_, fun a od m => ?_⟩⟩⟩
  · by_cases hb : b ∈ akeys Wf
    · simp only [if_pos hb] at e
      exact e
    · simp only [if_neg hb] at e
      exact oc b o e
  · have hn : a ∉ akeys Wf := fun z => dj a (mem_akeys m) a z rfl
    rw [if_neg hn]
    exact ow.at_ a od (List.mem_append_left _ m)
  · refine n.oc b o ?_
    by_cases hb : b ∈ akeys Wf
    · obtain ⟨od, m⟩ := inF b hb
      rw [(atF b od m).1] at e
      cases e
    · rw [if_neg hb]
      exact e
  · have e : akeys (W' ++ Wf) = akeys W' ++ akeys Wf := by simp [akeys]
    rw [e, List.nodup_append]
    refine ⟨n.own.nd, ndf, fun x hx y hy exy => ?_⟩
    subst exy
    obtain ⟨z, hz, ez⟩ := List.mem_map.mp hx
    have h1 := (n.own.at_ z.1 z.2 hz).1
    rw [ez, if_pos hy] at h1
    obtain ⟨od, m⟩ := inF _ hy
    obtain ⟨o, eo⟩ := (atF _ od m).2.some
    rw [h1] at eo
    cases eo
  · rcases List.mem_append.mp m with m | m
    · obtain ⟨h1, h2⟩ := n.own.at_ a od m
      refine ⟨?_, h2⟩
      by_cases hb : a ∈ akeys Wf
      · obtain ⟨od', m'⟩ := inF a hb
        exact (atF a od' m').1
      · rw [if_neg hb] at h1
        exact h1
    · obtain ⟨h1, h2⟩ := atF a od m
      obtain ⟨o, eo⟩ := h2.some
      have e2 : O' a = some o := n.oc a o (by rw [if_pos (mem_akeys (x := (a, od)) m)]; exact eo)
      rw [eo] at h2
      rw [e2]
      exact ⟨h1, h2.mono n.ext⟩
def HandX (S : FX) (ds : List D) (W : Om) (R : D → Om → Prop) (rx : Nat → Addr → Om → Prop) : Prop := ∃ Wc Wf, W.Perm (Wc ++ Wf) ∧ S ds Wc (fun d W' => R d (W' ++ Wf)) fun c d W' => rx c d (W' ++ Wf)
variable {rx : Nat → Addr → Om → Prop}
theorem handX0 {ds : List D} (h : S ds [] (fun d W' => R d (W' ++ W)) fun c d W' => rx c d (W' ++ W)) : HandX S ds W R rx := ⟨[], W, List.Perm.refl _, h⟩
theorem handXA {ds : List D} (h : S ds W R rx) : HandX S ds W R rx := ⟨W, [], by rw [List.append_nil], by simpa only [List.append_nil] using h⟩
theorem HandX.run {ds : List D} {vs : List V} {Q : VK} {XE : XK} (h : HandX S ds W R rx) (di : Dis O H) (oc : Same C O) (ow : Ow F T H C O W) (k : DenL F T H ds vs) (q : ∀ d W' H' O' v, R d W' → Nx F T C W' H H' O' → Den F T H' d v → Q v (ov O' H'))
    (x : ∀ c d W' H' O', rx c d W' → Nx F T C W' H H' O' → XE (.ref (T.cl c)) (dq c d) (ov O' H')) : spX F T S vs (ov O H) Q XE := by
  obtain ⟨Wc, Wf, hp, hs⟩ := h
  obtain ⟨C', h1, h2, h3⟩ := frame di oc (ow.perm hp)
  exact ⟨ds, Wc, C', H, O, _, _, rfl, di, h1, h2, k, hs, fun d W' H' O' v r n kd => q d _ H' O' v r (h3 W' H' O' n) kd, fun c d W' H' O' r n => x c d _ H' O' r (h3 W' H' O' n)⟩
theorem evx_call (h : EvA F T tr G W fun ds W1 => HandX S ds W1 R fun c d W' => ex c d G W') : EvX F T W0 (tCallS (spX F T S) (WE W0) tr) G W R ex := fun C H O σ w x Q q =>
  h C H O σ w _ fun ds W1 H1 O1 vs h1 n k => h1.run n.dis n.oc n.own k (fun d W' H' O' v r n2 kd => q d W' H' O' v r (n.trans n2) kd) fun c d W' H' O' r n2 => x c d G W' H' O' σ r (n.trans n2) (w.loc.mono (n.trans n2).ext)
theorem evx_cm {c : Nat} (h : Ev F T te G W fun d W1 => d = .adr (T.cl c) ∧ EvA F T tr G W1 fun ds W2 => HandX S (.adr (T.cl c) :: ds) W2 R fun c d W' => ex c d G W') : EvX F T W0 (tCmS (T.cl c) (spX F T S) (WE W0) te tr) G W R ex := fun C H O σ w x Q q =>
  h C H O σ w _ fun d W1 H1 O1 y ⟨ed, ha⟩ n1 k1 => by
    subst ed
    exact ⟨k1, ha C H1 O1 σ (w.step n1) _ fun ds W2 H2 O2 vs hh n2 k2 => hh.run n2.dis n2.oc n2.own ⟨_, _, rfl, rfl, k2⟩ (fun d W' H' O' v r n3 kd => q d W' H' O' v r ((n1.trans n2).trans n3) kd)
      fun c d W' H' O' r n3 => x c d G W' H' O' σ r ((n1.trans n2).trans n3) (w.loc.mono ((n1.trans n2).trans n3).ext)⟩
theorem evx_cmk {c n : Nat} {gV : List V → List V → List V} (h : Ev F T te G W fun d W1 => d = .adr (T.cl c) ∧ EvA F T tk G W1 fun ds W2 => ds.length = n ∧ ∃ as, (∀ H x zs, Den F T H d x → DenL F T H ds zs → DenL F T H as (gV [x] zs)) ∧ HandX S as W2 R fun c d W' => ex c d G W') :
    EvX F T W0 (tCmKS (T.cl c) n (spX F T S) gV (WE W0) te tk) G W R ex := fun C H O σ w x Q q =>
  h C H O σ w _ fun d W1 H1 O1 y ⟨ed, ha⟩ n1 k1 => by
    subst ed
    refine ⟨k1, ha C H1 O1 σ (w.step n1) _ fun ds W2 H2 O2 vs ⟨hl, as, hg, hh⟩ n2 k2 => ⟨by rw [k2.len]; exact hl, ?_⟩⟩
    exact hh.run n2.dis n2.oc n2.own (hg H2 _ vs rfl k2) (fun d W' H' O' v r n3 kd => q d W' H' O' v r ((n1.trans n2).trans n3) kd)
      fun c d W' H' O' r n3 => x c d G W' H' O' σ r ((n1.trans n2).trans n3) (w.loc.mono ((n1.trans n2).trans n3).ext)
/-- a new instance is handed to a raising __init__ -/
theorem run_makeX {c : Nat} {as : Addr → List D} {vs : Addr → List V} {x dx : Addr} {Q : VK} {XE : XK} (n : Nx F T C W H H' O') (k : ∀ H2 x, Same H' H2 → DenL F T H2 (as x) (vs x)) (h : ∀ x, x ∉ akeys W → HandX S (as x) ((x, .ins c [] []) :: W) (fun d W' => d = .non ∧ R (.adr x) W') rx)
    (hx : ov O' H' x = none) (hdx : ov O' H' dx = none) (ne : dx ≠ x) (q : ∀ d W2 H2 O2 v, R d W2 → Nx F T C W2 H H2 O2 → Den F T H2 d v → Q v (ov O2 H2)) (xq : ∀ c d W2 H2 O2, rx c d W2 → Nx F T C W2 H H2 O2 → XE (.ref (T.cl c)) (dq c d) (ov O2 H2)) :
    spX F T S (vs x) (upd (upd (ov O' H') dx (.own x)) x (.ins (T.cl c) dx [])) (fun v H2 => v = .non ∧ Q (.ref x) H2) XE := by
  obtain ⟨n2, e2, s2⟩ := n.newF (o := .own x) hdx
  rw [e2]
  have hx2 : ov O' (upd H' dx (.own x)) x = none := by rw [← e2, upd_ne ne.symm]; exact hx
  obtain ⟨n3, e3, np⟩ := n2.newO (od := .ins c [] []) (o := .ins (T.cl c) dx []) hx2 ⟨dx, [], rfl, rfl, rfl⟩
  rw [e3]
  refine (h x np).run n3.dis n3.oc n3.own (k _ x s2) (fun d W' H2 O2 v ⟨e, r⟩ n4 kd => ?_) fun c d W' H2 O2 r n4 => xq c d W' H2 O2 r (n3.trans n4)
  subst e
  exact ⟨kd, q (.adr x) W' H2 O2 _ r (n3.trans n4) rfl⟩
theorem evx_mk {c : Nat} (h : EvA F T tr G W fun ds W1 => ∀ x, x ∉ akeys W1 → HandX S (.adr x :: ds) ((x, .ins c [] []) :: W1) (fun d W' => d = .non ∧ R (.adr x) W') fun c d W' => ex c d G W') : EvX F T W0 (tMakS (T.cl c) (spX F T S) (WE W0) tr) G W R ex := fun C H O σ w xo Q q =>
  h C H O σ w _ fun ds W1 H1 O1 vs h1 n k x dx hx hdx ne => run_makeX (as := fun x => .adr x :: ds) (vs := fun x => .ref x :: vs) n (fun H2 x s => ⟨_, _, rfl, rfl, k.mono s⟩) h1 hx hdx ne q
    fun c d W' H' O' r n2 => xo c d G W' H' O' σ r n2 (w.loc.mono n2.ext)
theorem evx_mkk {c m : Nat} {gV : List V → List V → List V} (h : EvA F T tk G W fun ds W1 => ds.length = m ∧ ∃ as : Addr → List D, (∀ H x zs, DenL F T H ds zs → DenL F T H (as x) (gV [.ref x] zs)) ∧ ∀ x, x ∉ akeys W1 → HandX S (as x) ((x, .ins c [] []) :: W1) (fun d W' => d = .non ∧ R (.adr x) W') fun c d W' => ex c d G W') :
    EvX F T W0 (tMakKS (T.cl c) m (spX F T S) gV (WE W0) tk) G W R ex := fun C H O σ w xo Q q =>
  h C H O σ w _ fun ds W1 H1 O1 vs ⟨hl, as, hg, h1⟩ n k => ⟨by rw [k.len]; exact hl, fun x dx hx hdx ne => run_makeX (as := as) (vs := fun x => gV [.ref x] vs) n (fun H2 x s => hg H2 x vs (k.mono s)) h1 hx hdx ne q
    fun c d W' H' O' r n2 => xo c d G W' H' O' σ r n2 (w.loc.mono n2.ext)⟩
theorem swx_raise {c : Nat} {f : Str} (h : EvA F T tr G W fun ds W1 => ∃ z, ds = [z] ∧ ∀ d, d ∉ akeys W1 → ex c d G ((d, .xd [f] [z]) :: W1)) (hc : Nat.ble 100 c = false) :
    SwX F T W0 (fun _ σ H => tMkO (T.cl c) (spEr (T.cl c) f) [] tr σ H fun cls d H' => W0 cls d σ H') G W E ex := fun C H O σ w xo B b =>
  h C H O σ w _ fun ds W1 H1 O1 vs ⟨z, e, hz⟩ n k => by
    subst e
    obtain ⟨v, r', e1, k1, e2⟩ := k
    have e2 : r' = [] := e2
    subst e2 e1
    refine ⟨by simp, fun a ha => ⟨a, v, rfl, upd_same, fun dx h1 h2 => ⟨rfl, dx, [(f, v)], upd_same, ?_, ?_, ?_⟩⟩⟩
    · rw [upd_ne h2, upd_same]
    · rwa [upd_ne h2] at h1
    · have h3 : ov O1 H1 dx = none := by rwa [upd_ne h2] at h1
      have e : upd (del (upd (upd (upd (ov O1 H1) a (exo a (T.cl c) none)) dx (exd dx [(f, v)])) a (exo a (T.cl c) (some dx))) a) dx (.xd [(f, v)]) = upd (ov O1 H1) dx (.xd [(f, v)]) := by
        funext y
        by_cases hy : y = dx
        · rw [hy, upd_same, upd_same]
        · rw [upd_ne hy, upd_ne hy]
          unfold del
          by_cases ha2 : y = a
          · rw [if_pos ha2, ha2, ha]
          · rw [if_neg ha2, upd_ne ha2, upd_ne hy, upd_ne ha2]
      show W0 _ _ σ (upd (L2.del _ a) dx _)
      have e' := e
      obtain ⟨n2, e3, np⟩ := n.newO (od := .xd [f] [z]) (o := .xd [(f, v)]) h3 ⟨[(f, v)], rfl, rfl, .one k1⟩
      rw [show upd (L2.del (upd (upd (upd (ov O1 H1) a (exo a (T.cl c) none)) dx (exd dx [(f, v)])) a (exo a (T.cl c) (some dx))) a) dx (.xd [(f, v)]) = upd (ov O1 H1) dx (.xd [(f, v)]) from e', e3]
      have xx := xo c dx G _ _ _ σ (hz dx np) n2 (w.loc.mono n2.ext)
      rw [show dq c dx = some dx from by unfold dq; rw [hc]] at xx
      exact xx
/-- raise X(), X a class without fields -/
theorem swx_raise0 {c : Nat} (h : ex c 0 G W) (hc : Nat.ble 100 c = true := by rfl) : SwX F T W0 (fun _ σ H => W0 (.ref (T.cl c)) none σ H) G W E ex := fun C H O σ w xo B b => by
  have xx := xo c 0 G W H O σ h w.nx w.loc
  rw [show dq c 0 = none from by unfold dq; rw [hc]] at xx
  exact xx
end
section
variable {P : Program} {w : World} {K : PySem.W.Frag} {mg : Str → Option Value} {base : Heap} {F : FmKit} {cl : Nat → Addr} {S : FX}
/-- the wish of a def about what it lets out -/
abbrev WD (E : XK) : WX := fun cls d _ H => E cls d H
theorem spX_len {n : Nat} (len : ∀ ds W post ex, S ds W post ex → ds.length = n) : ∀ vs H Q E, spX F ⟨K, cl⟩ S vs H Q E → vs.length = n := fun vs H Q E ⟨ds, W, C, H1, O, post, ex, _, _, _, _, k, h, _⟩ => by
  rw [k.len]
  exact len ds W post ex h
theorem body_runX {N : List Str} {t : TS} {vs : List V} {H : Hp} {Q : VK} {E : XK} (h : spX F ⟨K, cl⟩ S vs H Q E) (b : ∀ ds W post ex, S ds W post ex → SwX F ⟨K, cl⟩ (WD E) t (startD N ds) W (E_ post) fun c d _ W => ex c d W) : t { nx := fun _ H' => Q .non H', rt := Q } (L2.start N vs) H := by
  obtain ⟨ds, W, C, H1, O, post, ex, e, di, oc, ow, k, hs, q, x⟩ := h
  subst e
  exact b ds W post ex hs C H1 O _ ⟨di, oc, k.lo, ow⟩ (fun c d G W' H' O' σ' r n _ => x c d W' H' O' r n) _ ⟨fun G W' H' O' σ' r n l => q .non W' H' O' .non r n rfl, fun d W' H' O' v r n kd => q d W' H' O' v r n kd, fun _ _ _ _ _ z => z.elim, fun _ _ _ _ _ z => z.elim⟩
theorem okX {x qual : Str} {st : Stmt} {f : Addr} {fd : FuncData} {N ps : List Str} {k : Nat} (Fn : Fun K x qual st f fd) (Sc : FnScope N ps (defScope st)) (len : ∀ ds W post ex, S ds W post ex → ds.length = ps.length)
    (body : ∀ (cdv : Value) (A : Around) (outer : List Env) (s : Shared) (H : Hp) (E : XK), Room k (A.deeper (envOfC qual (defScope st) s.heap.objs.size f cdv)) →
      ∃ t, PSs (cxOf (L2.CX P w) P w K mg base N qual (defScope st) f cdv A outer s H E) (defBody st) t ∧ ∀ ds W post ex, S ds W post ex → SwX F ⟨K, cl⟩ (WD E) t (startD N ds) W (E_ post) fun c d _ W => ex c d W) : FnOk P w K mg base (L2.CX P w) (k + 1) f fd ps (spX F ⟨K, cl⟩ S) :=
  Fn.okX Sc (spX_len len) fun cdv A outer s H vs Q E hr h => let ⟨t, ht, b⟩ := body cdv A outer s H E hr; ⟨t, ht, body_runX h b⟩
theorem calXD {x : Str} {st : Stmt} {f : Addr} {fd : FuncData} {N ps : List Str} {k : Nat} (hm : mg x = some (.ref f)) (Fn : Fun K x x st f fd) (Sc : FnScope N ps (defScope st)) (len : ∀ ds W post ex, S ds W post ex → ds.length = ps.length)
    (hb : ∀ (kV doc pm : Value) (an : Option Addr) (cdv ct : Value) (us : List Value), us.length = ps.length → bindArgs (PySem.W.fnOf x x (defArgs st) (defBody st) (defScope st) .none kV doc pm an cdv ct) ⟨us, []⟩ = pure (ps.zip us))
    (body : ∀ (cdv : Value) (A : Around) (outer : List Env) (s : Shared) (H : Hp) (E : XK), Room k (A.deeper (envOfC x (defScope st) s.heap.objs.size f cdv)) →
      ∃ t, PSs (cxOf (L2.CX P w) P w K mg base N x (defScope st) f cdv A outer s H E) (defBody st) t ∧ ∀ ds W post ex, S ds W post ex → SwX F ⟨K, cl⟩ (WD E) t (startD N ds) W (E_ post) fun c d _ W => ex c d W) : CalX P w K mg base (k + 1) x (spX F ⟨K, cl⟩ S) :=
  ⟨f, fd, ps, okX Fn Sc len body, hm, Fn.kp, Fn.binds hb⟩
theorem makXD {x qual : Str} {C : Addr} {st : Stmt} {f : Addr} {fd : FuncData} {N ps ks : List Str} {g : List Value → List Value → List Value} {gV : List V → List V → List V} {k : Nat} (mk : Mk K C f) (hm : mg x = some (.ref C)) (Fn : Fun K "__init__" qual st f fd) (Sc : FnScope N ps (defScope st)) (len : ∀ ds W post ex, S ds W post ex → ds.length = ps.length)
    (hb : ∀ (kV doc pm : Value) (an : Option Addr) (cdv ct : Value) (us : List Value), us.length = ps.length → bindArgs (PySem.W.fnOf "__init__" qual (defArgs st) (defBody st) (defScope st) .none kV doc pm an cdv ct) ⟨us, []⟩ = pure (ps.zip us))
    (kb : KBn K fd ps 1 ks g gV)
    (body : ∀ (cdv : Value) (A : Around) (outer : List Env) (s : Shared) (H : Hp) (E : XK), Room k (A.deeper (envOfC qual (defScope st) s.heap.objs.size f cdv)) →
      ∃ t, PSs (cxOf (L2.CX P w) P w K mg base N qual (defScope st) f cdv A outer s H E) (defBody st) t ∧ ∀ ds W post ex, S ds W post ex → SwX F ⟨K, cl⟩ (WD E) t (startD N ds) W (E_ post) fun c d _ W => ex c d W) :
    MakX P w K mg base (k + 1) x C ks.length ks gV (spX F ⟨K, cl⟩ S) :=
  ⟨f, fd, ps, g, mk, okX Fn Sc len body, hm, Fn.binds hb, kb, rfl⟩
end
end N
set_option Elab.async false
set_option linter.all false
set_option maxRecDepth 100000
set_option maxHeartbeats 1000000
namespace N
open PySem PySem.Spec PyProof.Rows L2
inductive Tok where
  | form | sg (c : Nat)
def cl (l : List Nat) : Nat := l.count 108
section
variable {F : FmKit} {T : Kx} {W : Om} {R : D → Om → Prop} {l : List D} {ks : List Key}
theorem tyd_non : TyD F T W .non (.type "NoneType") := fun C H O di ow x k => by
  have k : x = .non := k
  subst k
  exact .base .non
theorem tyd_lst : TyD F T W (.lst l) (.type "list") := fun C H O di ow x k => by
  obtain ⟨a, xs, e, hs, kl⟩ := k
  subst e
  exact .base (.lst (di.same _ _ hs))
theorem tyd_dct : TyD F T W (.dct ks l) (.type "dict") := fun C H O di ow x k => by
  obtain ⟨a, kvs, e, hs, _⟩ := k
  subst e
  exact .base (.dK (di.same _ _ hs))
/-- a value that is no text -/
inductive notStr : D → Prop
  | non : notStr .non
  | bl (b : Bool) : notStr (.bl b)
  | int (i : Int) : notStr (.int i)
  | tup (l : List D) : notStr (.tup l)
  | lst (l : List D) : notStr (.lst l)
  | dct (ks : List Key) (l : List D) : notStr (.dct ks l)
theorem isi_notStr {d : D} (h : notStr d) (r : R (.bl false) W) : Ca F T (rIsi T.K) [d, .vl (.ty "str")] W R := by
  cases h with
  | non => exact ca_isi (.ty "str") tyd_non (by unfold PySem.W.kitOne; first | rfl | decide +kernel) r
  | bl b => exact ca_isi (.ty "str") tyd_bl (by unfold PySem.W.kitOne; first | rfl | decide +kernel) r
  | int i => exact ca_isi (.ty "str") tyd_int (by unfold PySem.W.kitOne; first | rfl | decide +kernel) r
  | tup l => exact ca_isi (.ty "str") tyd_tup (by unfold PySem.W.kitOne; first | rfl | decide +kernel) r
  | lst l => exact ca_isi (.ty "str") tyd_lst (by unfold PySem.W.kitOne; first | rfl | decide +kernel) r
  | dct ks l => exact ca_isi (.ty "str") tyd_dct (by unfold PySem.W.kitOne; first | rfl | decide +kernel) r
end
end N
set_option Elab.async false
set_option linter.all false
set_option maxRecDepth 100000
namespace N
open PySem L2
@[reducible] def OD.lp (z : Obj) (kvs : List (Key × V)) (ps : List (Key × D)) : OD := .lk z kvs (ps.map (·.1)) (ps.map (·.2))
section
variable {F : FmKit} {T : Kx} {C H H' O O' : Hp} {G : Gm} {W W' W1 W2 : Om} {σ : St} {R : D → Om → Prop} {te td t1 t2 : TE} {t : TT} {vs : List Nat} {a : Addr} {ps : List (Key × D)} {cell : Addr × OD}
theorem ev_lockE (h : ∀ od kvs, Ev F T te G (W1 ++ (a, .lp od kvs ps) :: W2) fun z W' => ∃ W3 W4, W' = W3 ++ (a, .lp od kvs ps) :: W4 ∧ R z (W3 ++ (a, .dp ps) :: W4)) : Ev F T (tLockE te) G (W1 ++ (a, .dp ps) :: W2) R := fun C H O σ w Q q => by
  obtain ⟨hC, kvs, hO, f1, f2, kl⟩ := w.own.at_ a _ (List.mem_append_right _ List.mem_cons_self)
  refine ⟨a, .dK kvs, ov_own hO, trivial, fun od => ?_⟩
  obtain ⟨n1, e1⟩ := w.nx.write (o := .frz od (.dK kvs)) (od2 := .lp od kvs ps) ⟨rfl, f1, f2, kl⟩
  rw [e1]
  refine h od kvs C H _ σ ⟨n1.dis, n1.oc, w.loc, n1.own⟩ _ fun z W' H' O' v ⟨W3, W4, e, r⟩ n k => ?_
  subst e
  have nn := n1.trans n
  obtain ⟨_, g1, g2, g3, kl'⟩ := nn.own.at_ a _ (List.mem_append_right _ List.mem_cons_self)
  obtain ⟨n2, e2⟩ := nn.write (o := .dK kvs) (od2 := .dp ps) ⟨kvs, rfl, g2, g3, kl'⟩
  exact ⟨ov_own g1, by rw [e2]; exact q z _ _ _ v r n2 k⟩
/-- an iterator over data, as long as a cell stands -/
def WkC (F : FmKit) (T : Kx) (J : It) (H0 : Hp) (cell : Addr × OD) (ds : List D) : Prop :=
  ∀ (i : Nat) (H O C : Hp) (W : Om), Same H0 H → Dis O H → Ow F T H C O W → cell ∈ W →
    (∀ d, ds[i]? = some d → J.go i (ov O H) ∧ ∀ x H2, J.yld i (ov O H) x H2 → ∃ H', Same H H' ∧ Dis O H' ∧ H2 = ov O H' ∧ Den F T H' d x) ∧ (i = ds.length → J.stop i (ov O H))
def EvIC (F : FmKit) (T : Kx) (wi : TI) (G : Gm) (W : Om) (cell : Addr × OD) (R : List D → Om → Prop) : Prop :=
  ∀ (C H O : Hp) (σ : St), Wd F T C G W H O σ → ∀ Q : It → Hp → Prop, (∀ J ds W' H' O', R ds W' → Nx F T C W' H H' O' → WkC F T J H' cell ds → Q J (ov O' H')) → wi σ (ov O H) Q
theorem den_lk {i : Nat} {z : D} : ∀ {ps : List (Key × D)} {kvs : List (Key × V)}, kvs.map (·.1) = ps.map (·.1) → DenL F T H (ps.map (·.2)) (kvs.map (·.2)) → ∀ {i : Nat} {k : Key} {z : D}, ps[i]? = some (k, z) → ∃ v, kvs[i]? = some (k, v) ∧ Den F T H z v := fun {ps kvs} h kl {i k z} hp => by
  obtain ⟨v, hv, kz⟩ := kl.get (i := i) (d := z) (by rw [List.getElem?_map, hp]; rfl)
  rw [List.getElem?_map] at hv
  obtain ⟨⟨k', v'⟩, hkv, e⟩ := Option.map_eq_some_iff.mp hv
  have e : v' = v := e
  subst e
  have h1 : (kvs.map (·.1))[i]? = (ps.map (·.1))[i]? := by rw [h]
  rw [List.getElem?_map, List.getElem?_map, hkv, hp] at h1
  have h1 : k' = k := Option.some.inj h1
  subst h1
  exact ⟨v', hkv, kz⟩
theorem len_lk {ps : List (Key × D)} {kvs : List (Key × V)} (h : kvs.map (·.1) = ps.map (·.1)) : kvs.length = ps.length := by
  have := congrArg List.length h
  rwa [List.length_map, List.length_map] at this
theorem ei_keysL {od : Obj} {kvs : List (Key × V)} {Y : List D → Om → Prop} (h : Ev F T td G W fun d W1 => d = .adr a ∧ (a, .lp od kvs ps) ∈ W1 ∧ Y (ps.map fun p => kD p.1) W1) : EvIC F T (iKeys td) G W (a, .lp od kvs ps) Y := fun C H O σ w Q q =>
  h C H O σ w _ fun d W1 H1 O1 v ⟨e, hm, y⟩ n k => by
    subst e
    have k : v = .ref a := k
    obtain ⟨_, g1, g2, _, _⟩ := n.own.at_ a _ hm
    refine ⟨a, od, k, .inl ⟨kvs, ov_own g1, q _ _ W1 H1 O1 y n fun i H2 O2 C2 W2 s di ow hc => ?_⟩⟩
    obtain ⟨_, j1, j2, _, kl⟩ := ow.at_ a _ hc
    refine ⟨fun d hd => ?_, fun e => ⟨ov_own j1, by rw [e, List.length_map, len_lk j2]; exact Nat.le_refl _⟩⟩
    rw [List.getElem?_map] at hd
    obtain ⟨⟨key, z⟩, hp, rfl⟩ := Option.map_eq_some_iff.mp hd
    obtain ⟨u, hu, kz⟩ := den_lk (i := 0) (z := z) j2 kl hp
    refine ⟨⟨ov_own j1, (List.getElem?_eq_some_iff.mp hu).1⟩, fun x X ⟨e3, k', v', e0, e1⟩ => ?_⟩
    rw [hu] at e0
    cases e0
    exact ⟨H2, Same.refl _, di, e3, e1⟩
/-- reads while it is locked -/
theorem lk_get {od : Obj} {kvs : List (Key × V)} {k : Key} {z : D} (hm : (a, .lp od kvs ps) ∈ W) (ow : Ow F T H C O W) (hg : getG ps k = some z) : ∃ v, DGet (ov O H) a (kV k) (some v) ∧ Den F T H z v := by
  obtain ⟨_, g1, g2, _, kl⟩ := ow.at_ a _ hm
  rcases getG_den (k := k) g2 kl with ⟨h1, _⟩ | ⟨z', v, h1, h2, kz⟩
  · rw [h1] at hg
    cases hg
  · rw [h1] at hg
    cases hg
    exact ⟨v, .inl ⟨kvs, k, .inr ⟨od, ov_own g1⟩, rfl, h2.symm⟩, kz⟩
theorem ev_dgetL (h : Ev F T t1 G W fun d W1 => Ev F T t2 G W1 fun y W2 => ∃ a od kvs ps k z, d = .adr a ∧ (a, .lp od kvs ps) ∈ W2 ∧ y = kD k ∧ getG ps k = some z ∧ R z W2) : Ev F T (tDGet t1 t2) G W R := fun C H O σ w Q q =>
  h C H O σ w _ fun d W1 H1 O1 x h1 n1 k1 => h1 C H1 O1 σ (w.step n1) _ fun y W2 H2 O2 yv ⟨a, od, kvs, ps, k, z, e, hm, ey, hg, r⟩ n2 k2 => by
    subst e ey
    have k1 : x = .ref a := k1
    have k2 : yv = kV k := k2
    subst k1 k2
    obtain ⟨v, g, kz⟩ := lk_get hm n2.own hg
    exact ⟨a, v, rfl, g, q z W2 H2 O2 v r (n1.trans n2) kz⟩
end
section
variable {F : FmKit} {T : Kx} {C H H' O O' : Hp} {G : Gm} {W W' W1 W2 : Om} {σ : St} {R : D → Om → Prop}
/-- sorted of a list of unlike signs -/
theorem ca_sortedSL {d : D} {ns : List Nat} (hv : Vl W d (ns.map fun c => D.str (sg c))) (nd : ns.Nodup) (hl : ns.length < 64) (r : R (.lst ((ascN ns).map fun c => D.str (sg c))) W) : Ca F T (rSortedS T.K) [d] W R := ca_one fun C H O di oc ow x k Q q => by
  obtain ⟨a, xs, e, hs, kl⟩ := hv.sq ow di k
  rw [show (ns.map fun c => D.str (sg c)) = (ns.map sg).map D.str by rw [List.map_map]; rfl] at kl
  have exs := den_strs_inv kl
  subst exs
  refine ⟨a, ns.map sg, by rw [e], hs, by rw [List.length_map]; exact hl, fun ys p hp hss hn => ?_⟩
  obtain ⟨n2, e2, s2⟩ := (Nx.refl (F := F) (T := T) di oc ow).newF (o := .lst (ys.map V.str)) hn
  rw [e2]
  refine q _ W _ O _ r n2 ⟨p, _, rfl, upd_same, ?_⟩
  have n3 : (ns.map sg).Nodup := nd.map (f := sg) fun a b e h => e (sg_inj h)
  have ey : ys = (ascN ns).map sg := by
    rw [ascS_sorted (m := ns.map sg) hss (hp.nodup_iff.mpr n3) fun z => hp.mem_iff, ascS_sg]
    rfl
  rw [ey]
  have := den_strs (F := F) (T := T) (H := upd H p (.lst (((ascN ns).map sg).map V.str))) ((ascN ns).map sg)
  rw [show ((ascN ns).map fun c => D.str (sg c)) = ((ascN ns).map sg).map D.str by rw [List.map_map]; rfl]
  exact this
end
end N
set_option Elab.async false
set_option linter.all false
set_option maxRecDepth 100000
namespace N
open PySem PySem.Spec PyProof.Rows L2
def ltr (c : Nat) : Prop := (65 ≤ c ∧ c ≤ 90) ∨ (97 ≤ c ∧ c ≤ 122)
/-- the letters at a point, some of them by values -/
def keepL (ks : List Nat) (s : Str) : List Nat := (lets s).filter fun c => !decide (c ∈ ks)
def putL (vs : List (Nat × List Bool)) (k : Nat) : List Nat := (vs.filter fun p => p.2.getD k false).map (·.1)
def markS (vs : List (Nat × List Bool)) (k : Nat) (s : Str) : Str := ⟨(ascN (keepL (vs.map (·.1)) s ++ putL vs k)).toArray⟩
def markA (vs : List (Nat × List Bool)) (as : List Str) : List Str := (List.range as.length).map fun k => markS vs k (as.getD k "")
def valsT (w : Wb) (rs : List (Nat × Fm)) : List (Nat × List Bool) := rs.map fun p => (p.1, w.vals p.2)
def Wb.mark (w : Wb) (rs : List (Nat × Fm)) : Wb := ⟨w.below, markA (valsT w rs) w.atoms⟩
theorem valsT_keys (w : Wb) (rs : List (Nat × Fm)) : (valsT w rs).map (·.1) = rs.map (·.1) := by
  unfold valsT
  rw [List.map_map]
  rfl
theorem asc_nd {l : List Nat} (h : l.Pairwise (· < ·)) : l.Nodup := h.imp (S := (· ≠ ·)) fun h => Nat.ne_of_lt h
theorem low_ascN (l : List Nat) : (ascN l).length ≤ l.length := List.Nodup.length_le_of_subset (asc_nd (asc_ascN l)) fun x hx => mem_ascN.mp hx
/-- tables by letters -/
def tabL {α : Type} (f : α → D) (rs : List (Nat × α)) : List (Key × D) := rs.map fun p => (Sum.inr (sg p.1), f p.2)
theorem tabL_keys {α : Type} (f : α → D) (rs : List (Nat × α)) : (tabL f rs).map (·.1) = (rs.map (·.1)).map fun c => Sum.inr (sg c) := by
  unfold tabL
  rw [List.map_map, List.map_map]
  rfl
theorem tabL_nd {α : Type} {f : α → D} {rs : List (Nat × α)} (nd : (rs.map (·.1)).Nodup) : ((tabL f rs).map (·.1)).Nodup := by
  rw [tabL_keys]
  exact nd.map (f := fun c => (Sum.inr (sg c) : Key)) fun a b e h => e (sg_inj (Sum.inr.inj h))
theorem getG_nd {α : Type} {k : Key} {z : α} : ∀ {ps : List (Key × α)}, (ps.map (·.1)).Nodup → (k, z) ∈ ps → getG ps k = some z
  | [], _, h => by cases h
  | p :: ps, nd, h => by
    rw [List.map_cons, List.nodup_cons] at nd
    unfold getG
    rw [List.find?_cons]
    rcases List.mem_cons.mp h with e | h
    · subst e
      simp
    · have hne : ¬ p.1 = k := fun e => nd.1 (List.mem_map.mpr ⟨(k, z), h, e.symm⟩)
      simp only [hne, decide_false]
      exact getG_nd nd.2 h
theorem getG_tabL {α : Type} {f : α → D} {rs : List (Nat × α)} {c : Nat} {x : α} (nd : (rs.map (·.1)).Nodup) (h : (c, x) ∈ rs) : getG (tabL f rs) (Sum.inr (sg c)) = some (f x) :=
  getG_nd (tabL_nd nd) (List.mem_map.mpr ⟨(c, x), h, rfl⟩)
theorem flt_tab {α : Type} {q : α → Bool} {f : α → D} : ∀ l : List α, ((l.map fun x => (q x, f x)).filter (·.1)).map (·.2) = (l.filter q).map f
  | [] => rfl
  | x :: l => by
    have ih := flt_tab (q := q) (f := f) l
    rw [List.map_cons, List.filter_cons, List.filter_cons]
    cases hq : q x <;> simp [ih]
end N
set_option Elab.async false
set_option linter.all false
set_option maxRecDepth 100000
set_option maxHeartbeats 1000000
namespace N
open PySem PySem.Spec PyProof.Rows L2
open C8 (Cal Met Mak InsC pe_c pe_mt pe_mt0 pe_mk)
def getA {α : Type} (as : List (NestedKey × Addr × α)) (k : NestedKey) : Option α := (as.find? fun z => decide (z.1 = k)).map (·.2.2)
section
variable {X : Cx} {pins : List (Addr × Obj)} {σ : L2.St} {H : Hp} {s : Shared} {p : Addr} {as : List (NestedKey × Addr × V)}
mutual
theorem NkV.is (I : L2.Inv X pins σ H s) : ∀ (k : NestedKey) (v : V) (u : Value), NkV X.K H k v → RelV v u → NestedIs s.heap k u
  | .none, _, u, h, r => by
    have h : _ = V.non := h
    subst h
    obtain rfl : u = .none := r
    exact .none
  | .num i, _, u, h, r => by
    have h : _ = V.int i := h
    subst h
    obtain ⟨t, rfl⟩ := r
    exact .int i t
  | .text x, _, u, h, r => by
    have h : _ = V.str x := h
    subst h
    obtain ⟨t, rfl⟩ := r
    exact .text x t
  | .tup ks, _, u, ⟨a, xs, e, hs, hl⟩, r => by
    subst e
    obtain rfl : u = .ref a := r
    obtain ⟨its, r2, ⟨o, ho, hc, n, hd⟩, hz⟩ := I.tuple hs
    exact .tup ho hc hd (by rw [List.toList_toArray]; exact NkL.is I ks xs its hl r2)
theorem NkL.is (I : L2.Inv X pins σ H s) : ∀ (ks : List NestedKey) (xs : List V) (us : List Value), NkL X.K H ks xs → Vals xs us → NestedAll s.heap ks us
  | [], _, us, h, r => by
    have h : _ = [] := h
    subst h
    cases r
    exact .nil
  | k :: ks, _, us, ⟨v, t, e, h1, h2⟩, r => by
    subst e
    cases r with
    | cons r1 r2 => exact .cons (NkV.is I k v _ h1 r1) (NkL.is I ks t _ h2 r2)
end
abbrev NkPd : List (NestedKey × Addr × V) → List (NestedKey × Addr × Value) → Prop := Paired (fun (a : NestedKey × Addr × V) (u : NestedKey × Addr × Value) => a.1 = u.1 ∧ a.2.1 = u.2.1 ∧ RelV a.2.2 u.2.2)
theorem NkPd.keys : ∀ {as : List (NestedKey × Addr × V)} {us : List (NestedKey × Addr × Value)}, NkPd as us → us.map (·.1) = as.map (·.1)
  | [], _, h => by cases h; rfl
  | a :: as, _, h => by
    cases h with
    | cons h1 h2 => rw [List.map_cons, List.map_cons, NkPd.keys h2, h1.1]
theorem NkPd.get {k : NestedKey} : ∀ {as : List (NestedKey × Addr × V)} {us : List (NestedKey × Addr × Value)}, NkPd as us → (atKey us k = none ∧ getA as k = none) ∨ ∃ q v, atKey us k = some q ∧ getA as k = some v ∧ RelV v q.2
  | [], _, h => by cases h; exact .inl ⟨rfl, rfl⟩
  | a :: as, _, h => by
    cases h with
    | cons h1 h2 =>
      rename_i u us
      obtain ⟨e1, e2, e3⟩ := h1
      unfold atKey getA
      rw [List.find?_cons, List.find?_cons, ← e1]
      by_cases e : a.1 = k
      · rw [decide_eq_true e]
        exact .inr ⟨_, _, rfl, rfl, e3⟩
      · rw [decide_eq_false e]
        exact NkPd.get h2
theorem NkPd.mem : ∀ {as : List (NestedKey × Addr × V)} {us : List (NestedKey × Addr × Value)}, NkPd as us → ∀ x ∈ us, ∃ a ∈ as, a.1 = x.1 ∧ a.2.1 = x.2.1
  | [], _, h, x, hx => by cases h; cases hx
  | a :: as, _, h, x, hx => by
    cases h with
    | cons h1 h2 =>
      rcases List.mem_cons.mp hx with rfl | hx
      · exact ⟨a, List.mem_cons_self, h1.1, h1.2.1⟩
      · obtain ⟨b, hb, e⟩ := NkPd.mem h2 x hx
        exact ⟨b, List.mem_cons_of_mem _ hb, e⟩
end
end N
set_option Elab.async false
set_option linter.all false
set_option maxRecDepth 100000
set_option maxHeartbeats 4000000
set_option Elab.async false
set_option linter.all false
set_option maxRecDepth 100000
set_option maxHeartbeats 4000000
set_option Elab.async false
set_option linter.all false
set_option maxRecDepth 100000
set_option maxHeartbeats 1000000
namespace N
open PySem PySem.Spec PyProof.Rows L2
/-- a class: the letters, the classes beneath, the height -/
abbrev Ent := Str × List Nat × Nat
def posE (es : List Ent) (s : Str) (r : List Nat) : Option Nat := es.findIdx? fun e => decide (e.1 = s ∧ e.2.1 = r)
def stepC (w : Wb) (st : List Ent × List Nat) (i : Nat) : List Ent × List Nat :=
  match posE st.1 (w.atoms.getD i "") (ascN (((bensF w.below).getD i []).map fun j => st.2.getD j 0)) with
  | some k => (st.1, st.2 ++ [k])
  | none => (st.1 ++ [(w.atoms.getD i "", ascN (((bensF w.below).getD i []).map fun j => st.2.getD j 0), (hgtF w.below).getD i 0)], st.2 ++ [st.1.length])
/-- the first points of a web -/
def webAt (es : List Ent) (w : Wb) (i : Nat) : List Ent × List Nat := (List.range i).foldl (stepC w) (es, [])
def webCl (es : List Ent) (w : Wb) : List Ent × List Nat := webAt es w w.below.length
def allC (ws : List Wb) : List Ent × List (List Nat) := ws.foldl (fun st w => ((webCl st.1 w).1, st.2 ++ [(webCl st.1 w).2])) ([], [])
theorem webAt_zero (es : List Ent) (w : Wb) : webAt es w 0 = (es, []) := rfl
theorem webAt_succ (es : List Ent) (w : Wb) (i : Nat) : webAt es w (i + 1) = stepC w (webAt es w i) i := by
  unfold webAt
  rw [List.range_succ, List.foldl_append]
  rfl
theorem stepC_old {w : Wb} {st : List Ent × List Nat} {i k : Nat} (h : posE st.1 (w.atoms.getD i "") (ascN (((bensF w.below).getD i []).map fun j => st.2.getD j 0)) = some k) : stepC w st i = (st.1, st.2 ++ [k]) := by
  unfold stepC
  rw [h]
theorem stepC_new {w : Wb} {st : List Ent × List Nat} {i : Nat} (h : posE st.1 (w.atoms.getD i "") (ascN (((bensF w.below).getD i []).map fun j => st.2.getD j 0)) = none) : stepC w st i = (st.1 ++ [(w.atoms.getD i "", ascN (((bensF w.below).getD i []).map fun j => st.2.getD j 0), (hgtF w.below).getD i 0)], st.2 ++ [st.1.length]) := by
  unfold stepC
  rw [h]
theorem webAt_len (es : List Ent) (w : Wb) : ∀ i, (webAt es w i).2.length = i ∧ (webAt es w i).1.length ≤ es.length + i
  | 0 => ⟨rfl, Nat.le_refl _⟩
  | i + 1 => by
    have ⟨h1, h2⟩ := webAt_len es w i
    rw [webAt_succ]
    cases e : posE (webAt es w i).1 (w.atoms.getD i "") (ascN (((bensF w.below).getD i []).map fun j => (webAt es w i).2.getD j 0)) with
    | some k =>
      rw [stepC_old e]
      simp only [List.length_append, List.length_cons, List.length_nil]
      omega
    | none =>
      rw [stepC_new e]
      simp only [List.length_append, List.length_cons, List.length_nil]
      omega
theorem allC_snoc (ws : List Wb) (w : Wb) : allC (ws ++ [w]) = ((webCl (allC ws).1 w).1, (allC ws).2 ++ [(webCl (allC ws).1 w).2]) := by
  unfold allC
  rw [List.foldl_append]
  rfl
section
variable {F : FmKit} {T : Kx} {C H H' O O' : Hp} {G : Gm} {W W' : Om} {R : D → Om → Prop} {a x : Addr} {od : OD} {d d' : D} {ts : TS} {E : En}
theorem DenL.swap {b : D} {v : V} : ∀ {l : List D} {vs : List V} {j : Nat}, DenL F T H l vs → l[j]? = some (.adr a) → Den F T H d' (.ref a) → DenL F T H (l.set j d') vs
  | [], vs, j, _, h, _ => by simp at h
  | b :: l, vs, 0, ⟨v, r, e, h1, h2⟩, h, k => by
    have e2 : b = .adr a := by simpa using h
    subst e2
    have h1 : v = .ref a := h1
    subst h1
    exact ⟨_, r, e, k, h2⟩
  | b :: l, vs, j + 1, ⟨v, r, e, h1, h2⟩, h, k => by
    refine ⟨v, r, e, h1, ?_⟩
    exact DenL.swap (b := b) (v := v) h2 (by simpa using h) k
end
theorem posE_snoc {es : List Ent} {s : Str} {r : List Nat} (h : Nat) (hn : posE es s r = none) : posE (es ++ [(s, r, h)]) s r = some es.length := by
  unfold posE at hn ⊢
  rw [List.findIdx?_append, hn]
  simp
end N
set_option Elab.async false
set_option linter.all false
set_option maxRecDepth 100000
set_option maxHeartbeats 1000000
namespace N
open PySem PySem.Spec PyProof.Rows L2
theorem allC_len (ws : List Wb) : (allC ws).2.length = ws.length := by
  induction ws using snoc_ind with
  | h0 => rfl
  | h1 ws w ih => rw [allC_snoc, List.length_append, List.length_append, ih]; rfl
end N
set_option Elab.async false
set_option linter.all false
set_option maxRecDepth 100000
set_option maxHeartbeats 4000000
set_option Elab.async false
set_option linter.all false
set_option maxRecDepth 100000
set_option maxHeartbeats 1000000
namespace N
open PySem PySem.Spec PyProof.Rows L2
/-- the number of a point's class -/
def clsN (ws : List Wb) (i p : Nat) : Nat := ((allC ws).2.getD i []).getD p 0
end N
set_option Elab.async false
set_option linter.all false
set_option maxRecDepth 100000
set_option maxHeartbeats 1000000
namespace N
open PySem PySem.Spec PyProof.Rows L2
theorem posE_app {es : List Ent} {s : Str} {r : List Nat} {k : Nat} (l : List Ent) (h : posE es s r = some k) : posE (es ++ l) s r = some k := by
  unfold posE at h ⊢
  rw [List.findIdx?_append, h]
  rfl
/-- equal places, equal keys -/
theorem posE_inj {es : List Ent} {s s' : Str} {r r' : List Nat} {k : Nat} (h : posE es s r = some k) (h' : posE es s' r' = some k) : s = s' ∧ r = r' := by
  unfold posE at h h'
  obtain ⟨h1, h2, _⟩ := List.findIdx?_eq_some_iff_getElem.mp h
  obtain ⟨h3, h4, _⟩ := List.findIdx?_eq_some_iff_getElem.mp h'
  have h2 := of_decide_eq_true h2
  have h4 := of_decide_eq_true h4
  exact ⟨h2.1.symm.trans h4.1, h2.2.symm.trans h4.2⟩
/-- the key of a point, by numbers -/
def keyA (w : Wb) (ns : List Nat) (p : Nat) : Str × List Nat := (w.atoms.getD p "", ascN (((bensF w.below).getD p []).map fun j => ns.getD j 0))
theorem bens_low {w : Wb} (hw : w.ok) {p : Nat} : ∀ x ∈ (bensF w.below).getD p [], x < p := fun x hx => by
  rw [List.getD_eq_getElem?_getD] at hx
  cases e : (bensF w.below)[p]? with
  | none => rw [e] at hx; simp at hx
  | some b =>
    rw [e] at hx
    exact bensF_low hw.rows p b e x hx
theorem keyA_snoc {w : Wb} (hw : w.ok) (ns : List Nat) (k p : Nat) (hp : p ≤ ns.length) : keyA w (ns ++ [k]) p = keyA w ns p := by
  unfold keyA
  congr 2
  refine List.map_congr_left fun x hx => ?_
  have := bens_low hw x hx
  rw [List.getD_eq_getElem?_getD, List.getD_eq_getElem?_getD, List.getElem?_append_left (by omega)]
/-- what holds of the points that are met -/
theorem webAt_pos {w : Wb} (hw : w.ok) (es : List Ent) : ∀ i, (∃ l, (webAt es w i).1 = es ++ l) ∧ ∀ p, p < i → posE (webAt es w i).1 (keyA w (webAt es w i).2 p).1 (keyA w (webAt es w i).2 p).2 = some ((webAt es w i).2.getD p 0)
  | 0 => ⟨⟨[], by simp [webAt_zero]⟩, fun p h => absurd h (Nat.not_lt_zero _)⟩
  | i + 1 => by
    obtain ⟨⟨l, hl⟩, hp⟩ := webAt_pos hw es i
    obtain ⟨n1, n2⟩ := webAt_len es w i
    rw [webAt_succ]
    have e0 : (w.atoms.getD i "", ascN (((bensF w.below).getD i []).map fun j => (webAt es w i).2.getD j 0)) = keyA w (webAt es w i).2 i := rfl
    cases e : posE (webAt es w i).1 (w.atoms.getD i "") (ascN (((bensF w.below).getD i []).map fun j => (webAt es w i).2.getD j 0)) with
    | some k =>
      rw [stepC_old e]
      refine ⟨⟨l, hl⟩, fun p hlt => ?_⟩
      show posE (webAt es w i).1 (keyA w ((webAt es w i).2 ++ [k]) p).1 (keyA w ((webAt es w i).2 ++ [k]) p).2 = some (((webAt es w i).2 ++ [k]).getD p 0)
      rw [keyA_snoc hw _ _ _ (by omega)]
      by_cases h : p < i
      · rw [hp p h, List.getD_eq_getElem?_getD, List.getD_eq_getElem?_getD, List.getElem?_append_left (by omega)]
      · have h : p = i := by omega
        subst h
        rw [List.getD_eq_getElem?_getD, List.getElem?_append_right (by omega), n1]
        simp only [Nat.sub_self, List.getElem?_cons_zero, Option.getD_some]
        exact e
    | none =>
      rw [stepC_new e]
      refine ⟨⟨l ++ [_], by rw [hl, List.append_assoc]⟩, fun p hlt => ?_⟩
      show posE ((webAt es w i).1 ++ [_]) (keyA w ((webAt es w i).2 ++ [_]) p).1 (keyA w ((webAt es w i).2 ++ [_]) p).2 = some (((webAt es w i).2 ++ [_]).getD p 0)
      rw [keyA_snoc hw _ _ _ (by omega)]
      by_cases h : p < i
      · rw [posE_app _ (hp p h), List.getD_eq_getElem?_getD, List.getD_eq_getElem?_getD, List.getElem?_append_left (by omega)]
      · have h : p = i := by omega
        subst h
        rw [List.getD_eq_getElem?_getD (l := (webAt es w p).2 ++ [(webAt es w p).1.length]), List.getElem?_append_right (by omega), n1]
        simp only [Nat.sub_self, List.getElem?_cons_zero, Option.getD_some]
        exact posE_snoc _ e
theorem allC_pos (ws : List Wb) (hws : ∀ w ∈ ws, w.ok) : ∀ (i : Nat) (w : Wb) (p : Nat), ws[i]? = some w → p < w.below.length → posE (allC ws).1 (keyA w ((allC ws).2.getD i []) p).1 (keyA w ((allC ws).2.getD i []) p).2 = some (clsN ws i p) := by
  induction ws using snoc_ind with
  | h0 => intro i w p h; simp at h
  | h1 ws v ih =>
    intro i w p h hp
    have hl := allC_len ws
    have ih := ih fun w hw => hws w (List.mem_append_left _ hw)
    have hv := hws v (by simp)
    obtain ⟨⟨l, hl2⟩, h2⟩ := webAt_pos hv (allC ws).1 v.below.length
    unfold clsN
    rw [allC_snoc]
    by_cases hi : i < ws.length
    · rw [List.getElem?_append_left hi] at h
      have e : ((allC ws).2 ++ [(webCl (allC ws).1 v).2]).getD i [] = (allC ws).2.getD i [] := by
        rw [List.getD_eq_getElem?_getD, List.getD_eq_getElem?_getD, List.getElem?_append_left (by omega)]
      show posE (webCl (allC ws).1 v).1 (keyA w (((allC ws).2 ++ [(webCl (allC ws).1 v).2]).getD i []) p).1 (keyA w (((allC ws).2 ++ [(webCl (allC ws).1 v).2]).getD i []) p).2 = some ((((allC ws).2 ++ [(webCl (allC ws).1 v).2]).getD i []).getD p 0)
      rw [e]
      have : (webCl (allC ws).1 v).1 = (allC ws).1 ++ l := hl2
      rw [this]
      exact posE_app _ (ih i w p h hp)
    · rw [List.getElem?_append_right (by omega)] at h
      have hi2 : i = ws.length := by
        rcases Nat.lt_or_ge (i - ws.length) 1 with q | q
        · omega
        · rw [List.getElem?_eq_none (by simpa using q)] at h
          cases h
      subst hi2
      have h : v = w := by simpa using h
      subst h
      have e : ((allC ws).2 ++ [(webCl (allC ws).1 v).2]).getD ws.length [] = (webCl (allC ws).1 v).2 := by
        rw [List.getD_eq_getElem?_getD, List.getElem?_append_right (by omega), hl]
        simp
      show posE (webCl (allC ws).1 v).1 (keyA v (((allC ws).2 ++ [(webCl (allC ws).1 v).2]).getD ws.length []) p).1 (keyA v (((allC ws).2 ++ [(webCl (allC ws).1 v).2]).getD ws.length []) p).2 = some ((((allC ws).2 ++ [(webCl (allC ws).1 v).2]).getD ws.length []).getD p 0)
      rw [e]
      exact h2 p hp
/-- two points have one class where the letters and the classes beneath are the same -/
theorem cls_iff {ws : List Wb} (hws : ∀ w ∈ ws, w.ok) {i j p q : Nat} {w v : Wb} (hi : ws[i]? = some w) (hj : ws[j]? = some v) (hp : p < w.below.length) (hq : q < v.below.length) :
    clsN ws i p = clsN ws j q ↔ w.atoms.getD p "" = v.atoms.getD q "" ∧ ∀ x, (∃ a ∈ (bensF w.below).getD p [], clsN ws i a = x) ↔ (∃ b ∈ (bensF v.below).getD q [], clsN ws j b = x) := by
  have h1 := allC_pos ws hws i w p hi hp
  have h2 := allC_pos ws hws j v q hj hq
  have asc : ∀ {a b : List Nat}, ascN a = ascN b ↔ ∀ x, x ∈ a ↔ x ∈ b := fun {a b} => by
    constructor
    · intro e x
      rw [← mem_ascN, e, mem_ascN]
    · intro h
      exact ascN_ext (asc_ascN a) (asc_ascN b) fun x => by rw [mem_ascN, mem_ascN, h]
  have mm : ∀ (w : Wb) (i p x : Nat), x ∈ (((bensF w.below).getD p []).map fun j => ((allC ws).2.getD i []).getD j 0) ↔ ∃ a ∈ (bensF w.below).getD p [], clsN ws i a = x := fun w i p x => by
    rw [List.mem_map]
    exact Iff.rfl
  constructor
  · intro e
    rw [e] at h1
    obtain ⟨g1, g2⟩ := posE_inj h1 h2
    refine ⟨g1, fun x => ?_⟩
    rw [← mm, ← mm]
    exact asc.mp g2 x
  · rintro ⟨g1, g2⟩
    have e1 : (keyA w ((allC ws).2.getD i []) p).1 = (keyA v ((allC ws).2.getD j []) q).1 := g1
    have e2 : (keyA w ((allC ws).2.getD i []) p).2 = (keyA v ((allC ws).2.getD j []) q).2 := asc.mpr fun x => by rw [mm, mm]; exact g2 x
    rw [e1, e2, h2] at h1
    exact (Option.some.inj h1).symm
end N
set_option Elab.async false
set_option linter.all false
set_option maxRecDepth 100000
set_option maxHeartbeats 1000000
namespace N
open PySem PySem.Spec PyProof.Rows L2
structure Bis (u w : Wb) (R : Nat → Nat → Prop) : Prop where
  dom : ∀ i p, R i p → i < u.below.length ∧ p < w.below.length
  at_ : ∀ i p, R i p → u.atoms.getD i "" = w.atoms.getD p ""
  forth : ∀ i p, R i p → ∀ a ∈ (bensF u.below).getD i [], ∃ b ∈ (bensF w.below).getD p [], R a b
  back : ∀ i p, R i p → ∀ b ∈ (bensF w.below).getD p [], ∃ a ∈ (bensF u.below).getD i [], R a b
theorem vals_atom {w : Wb} (hw : w.ok) {c i : Nat} (hi : i < w.below.length) : (w.vals (.at c)).getD i false = decide (c ∈ lets (w.atoms.getD i "")) := by
  have hl := hw.len
  show (w.atoms.map fun s => decide (c ∈ lets s)).getD i false = _
  rw [getD_map (f := fun s : PySem.Str => decide (c ∈ lets s)) (l := w.atoms) (d := ("" : PySem.Str)) (by omega)]
section
variable {u w : Wb} {R : Nat → Nat → Prop} (hu : u.ok) (hw : w.ok) (B : Bis u w R)
include hu hw B
theorem Bis.vals : ∀ (f : Fm) (i p : Nat), R i p → (u.vals f).getD i false = (w.vals f).getD p false
  | .at c, i, p, r => by
    obtain ⟨h1, h2⟩ := B.dom i p r
    rw [vals_atom hu h1, vals_atom hw h2, B.at_ i p r]
  | .no, i, p, r => by
    obtain ⟨h1, h2⟩ := B.dom i p r
    rw [vals_no hu.len h1, vals_no hw.len h2]
  | .imp f g, i, p, r => by
    obtain ⟨h1, h2⟩ := B.dom i p r
    rw [vals_imp hu.len h1, vals_imp hw.len h2, Bis.vals f i p r, Bis.vals g i p r]
  | .all f, i, p, r => by
    obtain ⟨h1, h2⟩ := B.dom i p r
    rw [vals_at hu h1, vals_at hw h2, Bool.eq_iff_iff, List.all_eq_true, List.all_eq_true]
    constructor
    · intro h b hb
      obtain ⟨a, ha, r2⟩ := B.back i p r b hb
      rw [← Bis.vals f a b r2]
      exact h a ha
    · intro h a ha
      obtain ⟨b, hb, r2⟩ := B.forth i p r a ha
      rw [Bis.vals f a b r2]
      exact h b hb
theorem Bis.cls {i p : Nat} (r : R i p) : clsN [u, w] 0 i = clsN [u, w] 1 p := by
  have hws : ∀ x ∈ [u, w], x.ok := by simp [hu, hw]
  let Q : Nat → Nat → Nat → Nat → Prop := fun i p j q => i = 0 ∧ j = 1 ∧ R p q
  have key : ∀ m p q, p < m → R p q → clsN [u, w] 0 p = clsN [u, w] 1 q := by
    intro m
    induction m with
    | zero => intro p q h; exact absurd h (Nat.not_lt_zero _)
    | succ m ih =>
      intro p q hm r
      obtain ⟨h1, h2⟩ := B.dom p q r
      refine (cls_iff hws (i := 0) (j := 1) rfl rfl h1 h2).mpr ⟨B.at_ p q r, fun x => ⟨?_, ?_⟩⟩
      · rintro ⟨a, ha, e⟩
        obtain ⟨b, hb, r2⟩ := B.forth p q r a ha
        have := bens_low hu a ha
        exact ⟨b, hb, by rw [← e, ih a b (by omega) r2]⟩
      · rintro ⟨b, hb, e⟩
        obtain ⟨a, ha, r2⟩ := B.back p q r b hb
        have := bens_low hu a ha
        exact ⟨a, ha, by rw [← e, ih a b (by omega) r2]⟩
  exact key (i + 1) i p (Nat.lt_succ_self _) r
end
/-- what is marked at a point -/
theorem lets_markS {vs : List (Nat × List Bool)} {k : Nat} {s : Str} {c : Nat} : c ∈ lets (markS vs k s) ↔ (c ∈ lets s ∧ c ∉ vs.map (·.1)) ∨ ∃ x ∈ vs, x.1 = c ∧ x.2.getD k false = true := by
  show c ∈ ascN _ ↔ _
  rw [mem_ascN, List.mem_append]
  refine or_congr ?_ ?_
  · unfold keepL
    rw [List.mem_filter]
    simp
  · unfold putL
    rw [List.mem_map]
    constructor
    · rintro ⟨x, hx, e⟩
      obtain ⟨h1, h2⟩ := List.mem_filter.mp hx
      exact ⟨x, h1, e, h2⟩
    · rintro ⟨x, hx, e, h⟩
      exact ⟨x, List.mem_filter.mpr ⟨hx, h⟩, e⟩
theorem markS_ext {vs us : List (Nat × List Bool)} {k j : Nat} {s : Str} (hk : ∀ c, c ∈ vs.map (·.1) ↔ c ∈ us.map (·.1)) (hv : ∀ c, (∃ x ∈ vs, x.1 = c ∧ x.2.getD k false = true) ↔ ∃ x ∈ us, x.1 = c ∧ x.2.getD j false = true) : markS vs k s = markS us j s := by
  have e : ascN (keepL (vs.map (·.1)) s ++ putL vs k) = ascN (keepL (us.map (·.1)) s ++ putL us j) := ascN_ext (asc_ascN _) (asc_ascN _) fun c => by
    have h1 := lets_markS (vs := vs) (k := k) (s := s) (c := c)
    have h2 := lets_markS (vs := us) (k := j) (s := s) (c := c)
    have h1 : c ∈ ascN (keepL (vs.map (·.1)) s ++ putL vs k) ↔ _ := h1
    have h2 : c ∈ ascN (keepL (us.map (·.1)) s ++ putL us j) ↔ _ := h2
    rw [h1, h2, hk c, hv c]
  unfold markS
  rw [e]
theorem mark_at {w : Wb} {rs : List (Nat × Fm)} {i : Nat} (hi : i < w.atoms.length) : (w.mark rs).atoms.getD i "" = markS (valsT w rs) i (w.atoms.getD i "") := by
  show (markA (valsT w rs) w.atoms).getD i "" = _
  unfold markA
  rw [List.getD_eq_getElem?_getD, List.getElem?_map, List.getElem?_range hi]
  rfl
/-- marks at points that see the same -/
theorem mark_pts {u w : Wb} {i p : Nat} {rs qs : List (Nat × Fm)} (hi : i < u.atoms.length) (hp : p < w.atoms.length) (ha : u.atoms.getD i "" = w.atoms.getD p "") (hm : ∀ x, x ∈ rs ↔ x ∈ qs) (hv : ∀ f, (u.vals f).getD i false = (w.vals f).getD p false) : (u.mark rs).atoms.getD i "" = (w.mark qs).atoms.getD p "" := by
  rw [mark_at hi, mark_at hp, ha]
  refine markS_ext (fun c => ?_) fun c => ?_
  · rw [valsT_keys, valsT_keys, List.mem_map, List.mem_map]
    exact ⟨fun ⟨x, hx, e⟩ => ⟨x, (hm x).mp hx, e⟩, fun ⟨x, hx, e⟩ => ⟨x, (hm x).mpr hx, e⟩⟩
  · unfold valsT
    constructor
    · rintro ⟨y, hy, e, h⟩
      obtain ⟨x, hx, rfl⟩ := List.mem_map.mp hy
      exact ⟨_, List.mem_map.mpr ⟨x, (hm x).mp hx, rfl⟩, e, by rw [← hv]; exact h⟩
    · rintro ⟨y, hy, e, h⟩
      obtain ⟨x, hx, rfl⟩ := List.mem_map.mp hy
      exact ⟨_, List.mem_map.mpr ⟨x, (hm x).mpr hx, rfl⟩, e, by rw [hv]; exact h⟩
theorem Bis.mark {u w : Wb} {R : Nat → Nat → Prop} (hu : u.ok) (hw : w.ok) (B : Bis u w R) {rs qs : List (Nat × Fm)} (hm : ∀ x, x ∈ rs ↔ x ∈ qs) : Bis (u.mark rs) (w.mark qs) R :=
  ⟨B.dom, fun i p r => mark_pts (by rw [hu.len]; exact (B.dom i p r).1) (by rw [hw.len]; exact (B.dom i p r).2) (B.at_ i p r) hm fun f => B.vals hu hw f i p r, B.forth, B.back⟩
end N
set_option Elab.async false
set_option linter.all false
set_option maxRecDepth 100000
set_option maxHeartbeats 1000000
set_option Elab.async false
set_option linter.all false
set_option maxRecDepth 100000
set_option maxHeartbeats 1000000
set_option Elab.async false
set_option linter.all false
set_option maxRecDepth 100000
set_option maxHeartbeats 1000000
set_option Elab.async false
set_option linter.all false
set_option maxRecDepth 100000
set_option maxHeartbeats 1000000
namespace N
open PySem PySem.Spec PyProof.Rows L2
open C8 (Cal Met Mak InsC pe_c pe_mt pe_mt0 pe_mk)
open TL (numL numL_lt numL_step numL_digits numL_ne int_num split_join joinL tl_join join_eq tl_num)
theorem str_lets (x : Str) : x.length = (lets x).length := str_len x
/-- a number's text -/
def numS (n : Nat) : Str := Str.ofString (toString ((n : Nat) : Int))
theorem numS_lets (n : Nat) : lets (numS n) = numL n := tl_num n
theorem numL_two {n : Nat} (h : 10 ≤ n) (h2 : n < 100) : numL n = [48 + n / 10, 48 + n % 10] := by
  rw [numL_step h, numL_lt (by omega)]
  rfl
theorem numS_len {n : Nat} (h : n < 100) : (numS n).length ≤ 2 ∧ (numS n).length ≠ 0 := by
  rw [str_lets, numS_lets]
  by_cases h2 : n < 10
  · rw [numL_lt h2]
    simp
  · rw [numL_two (by omega) h]
    simp
/-- the word of the letters -/
def wordL (s : Str) : Str := if s = "" then "-" else s
def lineL (s : Str) (r : List Nat) : List Str := wordL s :: r.map numS
def lineS (s : Str) (r : List Nat) : Str := Txt.join " " (lineL s r)
def Wb.lines (w : Wb) : List Str := List.zipWith lineS w.atoms w.below
def Wb.text (w : Wb) : Str := Txt.join "\n" w.lines
theorem sum_len {ps : List Str} {n : Nat} (h : ∀ p ∈ ps, p.length ≤ n) : (ps.map (·.length)).sum ≤ ps.length * n := by
  induction ps with
  | nil => simp
  | cons p ps ih =>
    have h1 := h p List.mem_cons_self
    have h2 := ih fun z hz => h z (List.mem_cons_of_mem _ hz)
    rw [List.map_cons, List.sum_cons, List.length_cons, Nat.add_mul, Nat.one_mul]
    omega
theorem word_len {s : Str} (h : s.length ≤ 100) : (wordL s).length ≤ 100 := by
  unfold wordL
  split
  · decide
  · exact h
structure LineOk (s : Str) (r : List Nat) : Prop where
  lets : letters s
  asc : (N.lets s).Pairwise (· < ·)
  few : r.length ≤ 63
  low : ∀ k ∈ r, k < 63
theorem LineOk.len {s : Str} {r : List Nat} (h : LineOk s r) : s.length ≤ 100 := letters_len h.lets h.asc
theorem LineOk.part {s : Str} {r : List Nat} (h : LineOk s r) : ∀ p ∈ lineL s r, p.length ≤ 100 := fun p hp => by
  rcases List.mem_cons.mp hp with rfl | hp
  · exact word_len h.len
  · obtain ⟨n, hn, rfl⟩ := List.mem_map.mp hp
    have := (numS_len (n := n) (by have := h.low n hn; omega)).1
    omega
theorem LineOk.parts {s : Str} {r : List Nat} (h : LineOk s r) : (lineL s r).length ≤ 64 := by
  have := h.few
  simp [lineL]
  omega
theorem LineOk.sum {s : Str} {r : List Nat} (h : LineOk s r) : ((lineL s r).map (·.length)).sum + (lineL s r).length * (" " : Str).length ≤ 16777216 := by
  have h1 := sum_len h.part
  have h2 := h.parts
  have h3 : (" " : Str).length = 1 := rfl
  rw [h3]
  have := Nat.mul_le_mul_right 100 h2
  omega
theorem Wb.ok.line {w : Wb} (hw : w.ok) {i : Nat} {s : Str} {r : List Nat} (h1 : w.atoms[i]? = some s) (h2 : w.below[i]? = some r) : LineOk s r where
  lets := (hw.lets s (List.mem_of_getElem? h1)).1
  asc := (hw.lets s (List.mem_of_getElem? h1)).2
  few := by
    obtain ⟨a, b⟩ := hw.rows.asc i r h2
    have h3 := low_len (a.imp fun h => Nat.ne_of_lt h) b
    have := hw.rows.few
    have := (List.getElem?_eq_some_iff.mp h2).1
    omega
  low := fun k hk => by
    have h3 := (hw.rows.asc i r h2).2 k hk
    have := hw.rows.few
    have := (List.getElem?_eq_some_iff.mp h2).1
    omega
end N
namespace N
open PySem PySem.Spec PyProof.Rows L2
theorem strOk_low {s : Str} (h : ∀ c ∈ lets s, c < 200) : PyData.strOk s = true := by
  unfold PyData.strOk
  simp only [Array.all_eq_true, decide_eq_true_eq]
  intro i hi
  have := h s.cps[i] (by simp [lets])
  omega
end N
set_option Elab.async false
set_option linter.all false
set_option maxRecDepth 100000
set_option maxHeartbeats 1000000
namespace N
open PySem PySem.Spec PyProof.Rows L2
abbrev Mk15 := Sum Str Nat
abbrev mk0 : Mk15 := .inr 0
end N
set_option Elab.async false
set_option linter.all false
set_option maxRecDepth 100000
set_option maxHeartbeats 1000000
set_option Elab.async false
set_option linter.all false
set_option maxRecDepth 100000
set_option maxHeartbeats 1000000
set_option Elab.async false
set_option linter.all false
set_option maxRecDepth 100000
set_option maxHeartbeats 1000000
namespace N
open PySem PySem.Spec PyProof.Rows L2
section
variable {F : FmKit} {T : Kx} {W : Om} {R : D → Om → Prop}
theorem bo_notB {a b : Bool} (r : R (.bl (!decide (a = b))) W) : Bo F T rNotB (.bl a) (.bl b) W R := op_sc fun H Q k => ⟨a, b, rfl, rfl, k _ r⟩
end
end N
set_option Elab.async false
set_option linter.all false
set_option maxRecDepth 100000
set_option maxHeartbeats 4000000
set_option Elab.async false
set_option linter.all false
set_option maxRecDepth 100000
set_option maxHeartbeats 1000000
set_option Elab.async false
set_option linter.all false
set_option maxRecDepth 100000
set_option maxHeartbeats 1000000
namespace N
open PySem PySem.Spec PyProof.Rows L2
theorem Bis.symm {u w : Wb} {R : Nat → Nat → Prop} (B : Bis u w R) : Bis w u fun p i => R i p :=
  ⟨fun p i r => (B.dom i p r).symm, fun p i r => (B.at_ i p r).symm, fun p i r => B.back i p r, fun p i r => B.forth i p r⟩
theorem Bis.comp {u v w : Wb} {R S : Nat → Nat → Prop} (B : Bis u v R) (C : Bis v w S) : Bis u w fun i p => ∃ j, R i j ∧ S j p :=
  ⟨fun i p ⟨j, r, s⟩ => ⟨(B.dom i j r).1, (C.dom j p s).2⟩, fun i p ⟨j, r, s⟩ => (B.at_ i j r).trans (C.at_ j p s), fun i p ⟨j, r, s⟩ a ha => by
    obtain ⟨b, hb, r2⟩ := B.forth i j r a ha
    obtain ⟨c, hc, s2⟩ := C.forth j p s b hb
    exact ⟨c, hc, b, r2, s2⟩, fun i p ⟨j, r, s⟩ c hc => by
    obtain ⟨b, hb, s2⟩ := C.back j p s c hc
    obtain ⟨a, ha, r2⟩ := B.back i j r b hb
    exact ⟨a, ha, b, r2, s2⟩⟩
end N
set_option Elab.async false
set_option linter.all false
set_option maxRecDepth 100000
set_option maxHeartbeats 1000000
namespace N
open PySem PySem.Spec PyProof.Rows L2
structure rlOk (rs : List (Nat × Fm)) : Prop where
  some_ : rs ≠ []
  few : rs.length ≤ 4
  asc : (rs.map (·.1)).Pairwise (· < ·)
  cap : ∀ p ∈ rs, 65 ≤ p.1 ∧ p.1 ≤ 90
  form : ∀ p ∈ rs, p.2.okF
  bare : ∀ p ∈ rs, ∀ c ∈ lets p.2.outer, c ∉ rs.map (·.1)
def marksS (rs : List (Nat × Fm)) : Str := ⟨(rs.map (·.1)).toArray⟩
end N
set_option Elab.async false
set_option linter.all false
set_option maxRecDepth 100000
set_option maxHeartbeats 1000000
namespace N
open PySem PySem.Spec PyProof.Rows L2
section
variable {X : Cx} {pins : List (Addr × Obj)} {σ : L2.St} {H : Hp} {s : Shared}
/-- an object that stands, and was told by nobody so far, is told now -/
theorem inv_adopt {p : Addr} {ob : HO} (I : Inv X pins σ H s) (f : FpOk X pins H p) (hp : ∃ o, s.heap.get? p = some o) (new : ObjOk X.prog X.w (upd H p ob) s.heap p ob) : Inv X pins σ (upd H p ob) s := by
  have hn : H p = none := f.1
  refine I.step (h' := s.heap) (t' := s.toks) (g' := s.gens) (d' := s.drawn) (ch := [p]) (fun b hb => ?_) (fun b o _ _ _ e _ => e) (fun b o _ _ _ e _ => ⟨o.slots, e⟩)
    (fun b o hb e n => ?_) (fun b o _ e => ⟨o, e⟩) (fun b xs e => ?_) (fun b o u e => ?_) (fun b ps e => ⟨#[], ?_⟩) (fun m hm => hm) (fun b u e => ?_) I.bare
  · rw [List.mem_singleton] at hb
    subst hb
    exact ⟨f.2.2.2.1, f.2.1, f.2.2.2.2.1, f.2.2.2.2.2⟩
  · rw [upd_ne (fun z => hb (by rw [z]; exact List.mem_singleton.mpr rfl))]
    exact n
  · rw [upd_ne (ne_of_none e hn)]; exact e
  · rw [upd_ne (ne_of_none e hn)]; exact e
  · rw [upd_ne (ne_of_none e hn), e]; simp
  · by_cases hb : b = p
    · subst hb
      rw [upd_same] at e
      cases e
      exact new
    · rw [upd_ne hb] at e
      exact (I.hok b u e).stay (fun c v _ q => q) (fun c q => by rw [upd_ne (ne_of_none q hn)]; exact q) fun c xs q => by rw [upd_ne (ne_of_none q hn)]; exact q
theorem pairs_of2 (I : Inv X pins σ H s) : ∀ {ps : List Addr} {kvs : List (Key × V)}, Paired (fun p kv => SqT X.K H p [kV kv.1, kv.2]) ps kvs →
    ∃ (vps : List (Value × Value)) (prs : List (Key × Value)), KV kvs prs ∧ vps.length = ps.length ∧ prs.length = ps.length ∧ ∀ (j : Nat) (k v : Value), vps[j]? = some (k, v) → ∃ (b : Addr) (key : Key), ps[j]? = some b ∧ IsTup s.heap b #[k, v] ∧ prs[j]? = some (key, v) ∧ (mixKind X.prog X.w).is key k = true
  | _, _, .nil => ⟨[], [], .nil, rfl, rfl, fun j k v e => by simp at e⟩
  | _, _, .cons (a := p) (b := kv) h t => by
    obtain ⟨vps, prs, r, hl, hl2, hp⟩ := pairs_of2 I t
    obtain ⟨its, rv, ht, _⟩ := I.tuple h
    obtain ⟨u, y, ei, ru, ry⟩ := vals2 rv
    subst ei
    refine ⟨(u, y) :: vps, (kv.1, y) :: prs, .cons ⟨rfl, ry⟩ r, by rw [List.length_cons, List.length_cons, hl], by rw [List.length_cons, List.length_cons, hl2], fun j k v e => ?_⟩
    cases j with
    | zero =>
      have e' : (u, y) = (k, v) := Option.some.inj e
      cases e'
      exact ⟨p, kv.1, rfl, ht, rfl, kV_is ru⟩
    | succ j =>
      obtain ⟨b, key, e1, e2, e3, e4⟩ := hp j k v (by simpa using e)
      exact ⟨b, key, by simpa using e1, e2, by simpa using e3, e4⟩
theorem dict_tuple (I : Inv X pins σ H s) (hcalm : X.calm = true) {a : Addr} {ps : List Addr} {kvs : List (Key × V)} (hpl : PlainSeq "tuple" s.heap a (ps.map Value.ref).toArray) (hp : Paired (fun p kv => SqT X.K H p [kV kv.1, kv.2]) ps kvs) (hz : ps.length ≤ sizeLine) {Q : Value → Shared → Prop}
    (q : ∀ d s', Inv X pins σ (upd H d (.dK (mergeK [] kvs))) s' → H d = none → d ≠ a → Q (.ref d) s') : wpAny (model X.prog X.w) X.A (call (.type "dict") [.ref a]) Q X.xe s := by
  obtain ⟨vps, prs, rel, hl, hl2, hpr⟩ := pairs_of2 I hp
  have items : PairItems s.heap (ps.map Value.ref).toArray (fun j => ps.getD j 0) vps := by
    refine ⟨by simp [hl], fun j k v e => ?_⟩
    obtain ⟨b, key, e1, e2, _, _⟩ := hpr j k v e
    have eb : ps.getD j 0 = b := by rw [List.getD_eq_getElem?_getD, e1]; rfl
    refine ⟨by simp [e1], ?_⟩
    show PairAt s.heap (ps.getD j 0) k v
    rw [eb]
    exact .inl e2
  have have_ : PairsHave (mixKind X.prog X.w) vps.length (PairRel vps) prs := by
    refine ⟨by rw [hl, hl2], fun i key v r => ?_⟩
    obtain ⟨b, k, _, _, e3, e4⟩ := hpr i key v r
    exact ⟨k, e3, e4⟩
  have hlt : a < s.heap.objs.size := by
    obtain ⟨o, n, ho, _⟩ := hpl
    exact Heap.lt_size ho
  refine PySem.call_dict_pairs (knd := mixKind X.prog X.w) (kvs := prs) (PairArg.tuple a (ps.map Value.ref).toArray (fun j => ps.getD j 0) vps) (I.ok.hd hcalm) ⟨hpl, items⟩ have_ (by rw [hl]; exact hz) fun h' tk hd' k => ?_
  have hm : (s.heap.objs.size == sysModules) = false := beq_eq_false_iff_ne.mpr (Nat.ne_of_gt I.big)
  have hlen : (mergeK [] kvs).length ≤ sizeLine := by
    refine Nat.le_trans (length_mergeK kvs []) ?_
    rw [List.length_nil, Nat.zero_add, rel.length, hl2]
    exact hz
  exact q s.heap.objs.size _ (I.laid (t' := tk) (fun b o e => k b o (by simp) e) (Nat.le_refl _) (show ObjOk X.prog X.w _ _ _ (.dK (mergeK [] kvs)) from ⟨hlen, hm, merged [] prs, KV.merge rel .nil, hd'⟩)) (I.hok.fresh (Nat.le_refl _)) (Nat.ne_of_gt hlt)
end
theorem sqT_ins {K : PySem.W.Frag} {H : Hp} {a C dx : Addr} {fs gs : List (Str × V)} {b : Addr} {xs : List V} (ea : H a = some (.ins C dx fs)) (h : SqT K H b xs) : SqT K (upd H a (.ins C dx gs)) b xs := by
  rcases h with (h | ⟨o, h⟩) | h
  · exact .inl (.inl (by rw [upd_ne (fun z => by rw [z, ea] at h; cases h)]; exact h))
  · exact .inl (.inr ⟨o, by rw [upd_ne (fun z => by rw [z, ea] at h; cases h)]; exact h⟩)
  · exact .inr h
theorem paired_imp {α β : Type} {r r' : α → β → Prop} (i : ∀ a b, r a b → r' a b) : ∀ {as : List α} {bs : List β}, Paired r as bs → Paired r' as bs
  | _, _, .nil => .nil
  | _, _, .cons h t => .cons (i _ _ h) (paired_imp i t)
theorem putF_len {f : Str} {v : V} : ∀ fs : List (Str × V), (putF f v fs).length ≤ fs.length + 1
  | [] => Nat.le_refl _
  | (g, x) :: r => by
    unfold putF
    split
    · simp
    · have := putF_len (f := f) (v := v) r
      simp only [List.length_cons]
      omega
/-- the tuple as an object -/
def tupO (ps : List Addr) : Obj := { cls := .type "tuple", data := .seq (ps.map Value.ref).toArray }
def sTupDict (K : PySem.W.Frag) (te ta : TE) (f g : Str) : TS := fun D σ H => te σ H fun v H1 => ∃ l ps kvs a C dx fs, v = .ref l ∧ SqL K H1 l (ps.map V.ref) ∧ Paired (fun p kv => SqT K H1 p [kV kv.1, kv.2]) ps kvs ∧ (∀ H2, ta σ H2 fun x H' => x = .ref a ∧ H' = H2) ∧ H1 a = some (.ins C dx fs) ∧ Cls K C ∧ NoAttr K C f ∧ NoAttr K C g ∧ fs.length < 900 ∧
  ∀ p d, H1 p = none → H1 d = none → d ≠ p → D.nx σ (upd (upd (upd H1 p (.frz (tupO ps) (.tup (ps.map V.ref)))) d (.dK (mergeK [] kvs))) a (.ins C dx (putF g (.ref d) (putF f (.ref p) fs))))
theorem pss_tupdict {X : Cx} {e o o2 o3 : Expr} {te ta : TE} {u : TS} {f g : Str} {n1 n2 c1 c2 a1 a2 q1 q2 q3 : Pos} {rest : List Stmt} (hgt : Gl X "tuple") (hmt : X.mg "tuple" = none) (hgd : Gl X "dict") (hmd : X.mg "dict" = none) (hcalm : X.calm = true)
    (he : PE X e te) (ha : PE X o ta) (ha2 : PE X o2 ta) (ha3 : PE X o3 ta) (hr : PSs X rest u)
    (hs1 : swapsWith (.Call (.Name "tuple" n1) [e] [] c1) (some (.Attribute o f q1)) a1.line X.env = pure false) (hs2 : swapsWith (.Call (.Name "dict" n2) [.Attribute o3 f q3] [] c2) (some (.Attribute o2 g q2)) a2.line X.env = pure false)
    (hb : attributeBase o3 f X.env (eval o3 X.env) = eval o3 X.env)
    (h1 : starEach [e] X.env = (false, eval e X.env) :: starEach [] X.env := by rfl) (h2 : (backTo c1 (starEach [] X.env)).any (·.1) = false := by rfl)
    (h3 : starEach [.Attribute o3 f q3] X.env = (false, eval (.Attribute o3 f q3) X.env) :: starEach [] X.env := by rfl) (h4 : (backTo c2 (starEach [] X.env)).any (·.1) = false := by rfl) :
    PSs X (.Assign [.Attribute o f q1] (.Call (.Name "tuple" n1) [e] [] c1) a1 :: .Assign [.Attribute o2 g q2] (.Call (.Name "dict" n2) [.Attribute o3 f q3] [] c2) a2 :: rest) (tSeq (sTupDict X.K te ta f g) u) := by
  refine ⟨fun pins s σ H D I h => ?_⟩
  refine wpAny_execs_cons (plainObj_wpAny_Assign_Attribute (Call_ (ld_blt I hgt hmt PyProof.Rows.boot_tuple (PyProof.Rows.callWith_type1 ?_ h1 h2))) hs1)
  rw [h1]
  show wpAny _ _ (spliced ((false, eval e X.env) :: backTo c1 (starEach [] X.env))) _ _ s
  refine Calls.spliced_cons (thn (he.run pins s σ H _ I h) fun u0 s1 ⟨v, H1, I1, r1, l, ps, kvs, a, C, dx, fs, ev, hl, hp, hself, ea, hc, nf, ng, hlen, q⟩ => ?_)
  subst ev
  obtain rfl : u0 = Value.ref l := r1
  refine wpAny_pure ?_
  obtain ⟨its, rv, pl, hz⟩ := I1.list hl
  have ei := refs_at rv
  subst ei
  rw [List.length_map] at hz
  refine call_tuple_list pl.isList (fun h' kp => ?_) (by simp only [List.size_toArray, List.length_map] <;> omega)
  have I2 : Inv X pins σ H1 { s1 with heap := h' } := I1.kept (t' := s1.toks) kp
  have f1 : FpOk X pins H1 h'.objs.size := I2.fpOk (Nat.le_refl _) (I2.hok.fresh (Nat.le_refl _))
  have I3 : Inv X pins σ H1 { s1 with heap := h'.push { cls := .type "tuple", data := .seq (ps.map Value.ref).toArray } } := I2.kept (t' := s1.toks) fun b o e => Heap.get?_push_of_some _ e
  have I4 : Inv X ((h'.objs.size, { cls := .type "tuple", data := .seq (ps.map Value.ref).toArray }) :: pins) σ H1 { s1 with heap := h'.push { cls := .type "tuple", data := .seq (ps.map Value.ref).toArray } } := I3.pins_of fun x hx => by
    rcases List.mem_cons.mp hx with e | e
    · subst e
      exact ⟨Heap.get?_push_size _ rfl, f1.1, f1.2.1, f1.2.2.1, fun v e => nomatch e⟩
    · exact I3.pin x (List.mem_append_right _ e)
  generalize hP : h'.objs.size = P at *
  have npa : P ≠ a := fun z => by rw [← z, f1.1] at ea; cases ea
  refine thn (ha.run _ _ σ H1 _ I4 (hself H1)) fun ov s2 ⟨x, H2, I5, rx, ex, eh⟩ => ?_
  subst ex eh
  obtain rfl : ov = Value.ref a := rx
  refine setattr_ok (y := .ref P) I5 ea hc nf (by omega) rfl fun s3 I6 => ?_
  show wpAny _ _ (execs (_ :: rest) _) _ _ s3
  refine wpAny_execs_cons (plainObj_wpAny_Assign_Attribute (Call_ (ld_blt I6 hgd hmd PyProof.Rows.boot_dict (PyProof.Rows.callWith_type1 ?_ h3 h4))) hs2)
  rw [h3]
  show wpAny _ _ (spliced ((false, eval (.Attribute o3 f q3) X.env) :: backTo c2 (starEach [] X.env))) _ _ s3
  refine Calls.spliced_cons (attr_of hb (thn (ha3.run _ _ σ _ _ I6 (hself _)) fun u4 s4 ⟨x, H4, I7, rx, ex, eh⟩ => ?_))
  subst ex eh
  obtain rfl : u4 = Value.ref a := rx
  refine getattr_ok (v := .ref P) I7 upd_same hc nf (by rw [lookup_putF, if_pos rfl]) fun u5 s5 I8 r5 => ?_
  obtain rfl : u5 = Value.ref P := r5
  refine wpAny_pure ?_
  have gp := (I8.pin (P, _) (List.mem_append_right _ List.mem_cons_self)).1
  refine dict_tuple I8 hcalm (ps := ps) (kvs := kvs) ⟨_, _, gp, rfl, rfl, rfl⟩ (paired_imp (fun b kv h => sqT_ins ea h) hp) hz fun d s6 I9 nd ne => ?_
  have nda : d ≠ a := fun z => by rw [z, upd_same] at nd; cases nd
  rw [upd_ne nda] at nd
  refine thn (ha2.run _ _ σ _ _ I9 (hself _)) fun ov s7 ⟨x, H7, I10, rx, ex, eh⟩ => ?_
  subst ex eh
  obtain rfl : ov = Value.ref a := rx
  refine setattr_ok (y := .ref d) (fs := putF f (.ref P) fs) I10 (by rw [upd_ne (Ne.symm nda)]; exact upd_same) hc ng (by have := putF_len (f := f) (v := .ref P) fs; omega) rfl fun s8 I11 => ?_
  have pp := I11.pin (P, _) (List.mem_append_right _ List.mem_cons_self)
  have I12 : Inv X pins σ _ s8 := I11.pins_of fun x hx => I11.pin x (List.mem_append_right _ (List.mem_cons_of_mem _ hx))
  have I13 := inv_adopt (p := P) (ob := .frz (tupO ps) (.tup (ps.map V.ref))) I12 ⟨pp.2.1, f1.2⟩ ⟨_, pp.1⟩ ⟨pp.1, by rw [List.length_map]; exact hz, ps.map Value.ref, rv, ⟨_, pp.1, rfl, _, rfl⟩⟩
  have eH : upd (upd (upd (upd H2 a (.ins C dx (putF f (.ref P) fs))) d (.dK (mergeK [] kvs))) a (.ins C dx (putF g (.ref d) (putF f (.ref P) fs)))) P (.frz (tupO ps) (.tup (ps.map V.ref))) = upd (upd (upd H2 P (.frz (tupO ps) (.tup (ps.map V.ref)))) d (.dK (mergeK [] kvs))) a (.ins C dx (putF g (.ref d) (putF f (.ref P) fs))) := by
    funext c
    by_cases e1 : c = a
    · subst e1
      rw [upd_ne (Ne.symm npa), upd_same, upd_same]
    · rw [upd_ne (H := upd (upd H2 P _) d _) e1]
      by_cases e2 : c = P
      · subst e2
        rw [upd_same, upd_ne (Ne.symm ne), upd_same]
      · rw [upd_ne e2, upd_ne e1]
        by_cases e3 : c = d
        · subst e3
          rw [upd_same, upd_same]
        · rw [upd_ne e3, upd_ne e1, upd_ne e3, upd_ne e2]
  rw [eH] at I13
  exact hr.run pins s8 σ _ D I13 (q P d f1.1 nd ne)
section
variable {F : FmKit} {T : Kx} {G : Gm} {W : Om} {E : En} {te : TE}
/-- .. plainly: an owned instance gets the tuple, and the table of its pairs -/
theorem sw_tupdict {i : Nat} {f g : Str} (h : Ev F T te G W fun d W1 => ∃ a c ns l W2 W3 ps, G[i]? = some (some (.adr a)) ∧ W1 = W2 ++ (a, .ins c ns l) :: W3 ∧ d = .lst (ps.map fun p : Key × D => .tup [kD p.1, p.2]) ∧ Cls T.K (T.cl c) ∧ NoAttr T.K (T.cl c) f ∧ NoAttr T.K (T.cl c) g ∧ ns.length < 900 ∧ f ∉ ns ∧ g ∉ ns ++ [f] ∧
    E.nx G (W2 ++ (a, .ins c (ns ++ [f] ++ [g]) (l ++ [.tupz (ps.map fun p => .tup [kD p.1, p.2])] ++ [.dct ((mergeG ps).map (·.1)) ((mergeG ps).map (·.2))])) :: W3)) : Sw F T (sTupDict T.K te (tVar i) f g) G W E := fun C H O σ w B b =>
  h C H O σ w _ fun d0 W1 H1 O1 v ⟨a, c, ns, l, W2, W3, ps, hg, eW, ed, hc, nf, ng, hl, f1, f2, r⟩ n1 k1 => by
    subst eW ed
    obtain ⟨p0, xs, ev, hs, kl⟩ := k1
    obtain ⟨as, kvs, e2, hp, hk, hd⟩ := den_pairs n1.dis kl
    subst e2
    obtain ⟨_, dx, fs, o1, o2, o3⟩ := n1.own.at_ a _ (List.mem_append_right _ List.mem_cons_self)
    have hself : ∃ u, σ[i]? = some (some u) ∧ u = .ref a := by
      obtain ⟨u, e, k⟩ := w.loc.at_ i _ hg
      exact ⟨u, e, k⟩
    obtain ⟨u, hu, eu⟩ := hself
    subst eu
    have hfl : fs.length = ns.length := by rw [← o2, List.length_map]
    refine ⟨p0, as, kvs, a, T.cl c, dx, fs, ev, n1.dis.same.seq (SqL.of hs), hp, fun H2 => ⟨_, hu, rfl, rfl⟩, ov_own o1, hc, nf, ng, by rw [hfl]; exact hl, fun p d hpn hdn hne => ?_⟩
    obtain ⟨n2, e2, s2⟩ := n1.newF (o := .frz (tupO as) (.tup (as.map V.ref))) hpn
    rw [e2]
    obtain ⟨n3, e3, s3⟩ := n2.newF (o := .dK (mergeK [] kvs)) (p := d) (by rw [← e2, upd_ne hne]; exact hdn)
    rw [e3]
    obtain ⟨m1, m2, m3⟩ := mergeK_keys (F := F) (T := T) (H := H1) (acc := []) (av := []) hk rfl List.nodup_nil hd (show DenL F T H1 (([] : List (Key × D)).map (·.2)) (([] : List (Key × V)).map (·.2)) from rfl)
    have kt : Den F T (upd (upd H1 p (.frz (tupO as) (.tup (as.map V.ref)))) d (.dK (mergeK [] kvs))) (.tupz (ps.map fun p => .tup [kD p.1, p.2])) (.ref p) := ⟨p, _, tupO as, rfl, s3 _ _ upd_same, rfl, (kl.mono s2).mono s3⟩
    have kd : Den F T (upd (upd H1 p (.frz (tupO as) (.tup (as.map V.ref)))) d (.dK (mergeK [] kvs))) (.dct ((mergeG ps).map (·.1)) ((mergeG ps).map (·.2))) (.ref d) := ⟨d, _, rfl, upd_same, m1, m2, (m3.mono s2).mono s3⟩
    have f3 : f ∉ fs.map (·.1) := by rw [o2]; exact f1
    have ef : putF f (.ref p) fs = fs ++ [(f, .ref p)] := putF_new f3
    have f4 : g ∉ (fs ++ [(f, V.ref p)]).map (·.1) := by rw [List.map_append, o2]; exact f2
    have eg : putF g (.ref d) (putF f (.ref p) fs) = fs ++ [(f, .ref p)] ++ [(g, .ref d)] := by rw [ef]; exact putF_new f4
    rw [eg]
    obtain ⟨n4, e4⟩ := n3.write (o := .ins (T.cl c) dx (fs ++ [(f, V.ref p)] ++ [(g, V.ref d)])) (od2 := .ins c (ns ++ [f] ++ [g]) (l ++ [.tupz (ps.map fun p => .tup [kD p.1, p.2])] ++ [.dct ((mergeG ps).map (·.1)) ((mergeG ps).map (·.2))])) ⟨dx, _, rfl, by rw [List.map_append, List.map_append, o2]; rfl, by
      rw [List.map_append, List.map_append]
      exact ((((o3.mono s2).mono s3).app (.one kt)).app (.one kd))⟩
    rw [e4]
    exact b.nx G _ _ _ σ r n4 (w.loc.mono ((n1.ext.trans s2).trans s3))
end
theorem Den.weak {F : FmKit} {T : Kx} {H : Hp} {l : List D} {v : V} (h : Den F T H (.tupz l) v) : Den F T H (.tup l) v := by
  obtain ⟨a, xs, o, e, h1, _, k⟩ := h
  exact ⟨a, xs, e, .inl (.inr ⟨o, h1⟩), k⟩
def rDictT (K : PySem.W.Frag) : List V → Hp → VK → Prop := fun xs H Q => ∃ a o ps kvs, xs = [.ref a] ∧ H a = some (.frz o (.tup (ps.map V.ref))) ∧ o.dict = none ∧ Paired (fun p kv => SqT K H p [kV kv.1, kv.2]) ps kvs ∧ ∀ d, H d = none → d ≠ a → Q (.ref d) (upd H d (.dK (mergeK [] kvs)))
theorem cr_dictT {X : Cx} (hcalm : X.calm = true) : CallR X (.type "dict") (rDictT X.K) := by
  intro pins s σ H xs us Q I r h
  obtain ⟨a, o, ps, kvs, rfl, ha, ho, hp, q⟩ := h
  obtain ⟨u, eu, ru⟩ : ∃ u, us = [u] ∧ RelV (.ref a) u := by
    cases r with
    | cons h t => cases t; exact ⟨_, rfl, h⟩
  subst eu
  obtain rfl : u = Value.ref a := ru
  obtain ⟨g, hz, its, rv, o2, g2, hc, n, hd⟩ := (show ObjOk X.prog X.w H s.heap a (.frz o (.tup (ps.map V.ref))) from I.hok a _ ha)
  obtain rfl : o = o2 := Option.some.inj (g.symm.trans g2)
  have ei := refs_at rv
  subst ei
  rw [List.length_map] at hz
  exact dict_tuple I hcalm (ps := ps) (kvs := kvs) ⟨o, n, g, hc, ho, hd⟩ hp hz fun d s' I' hn ne => ⟨.ref d, _, I', rfl, q d hn ne⟩
section
variable {F : FmKit} {T : Kx} {W : Om} {R : D → Om → Prop} {d : D}
theorem ca_dictT {ps : List (Key × D)} (h : ∀ p, p ∉ akeys W → R (.adr p) ((p, .dp (mergeG ps)) :: W)) : Ca F T (rDictT T.K) [.tupz (ps.map fun p => .tup [kD p.1, p.2])] W R := ca_one fun C H O di oc ow x hx Q q => by
  obtain ⟨a, xs, o, e, ha, ho, ka⟩ := hx
  obtain ⟨as, kvs, e2, h1, h2, h3⟩ := den_pairs di ka
  subst e2
  refine ⟨a, o, as, kvs, by rw [e], di.same _ _ ha, ho, h1, fun p hp _ => ?_⟩
  obtain ⟨m1, m2, m3⟩ := mergeK_keys (F := F) (T := T) (H := H) (acc := []) (av := []) h2 rfl List.nodup_nil h3 (show DenL F T H (([] : List (Key × D)).map (·.2)) (([] : List (Key × V)).map (·.2)) from rfl)
  obtain ⟨n2, e3, np⟩ := (Nx.refl di oc ow).newO (od := .dp (mergeG ps)) (o := .dK (mergeK [] kvs)) hp ⟨mergeK [] kvs, rfl, m1, m2, m3⟩
  rw [e3]
  exact q (.adr p) _ _ _ _ (h p np) n2 rfl
theorem ca_dictTF {ps : List (Key × D)} (h : R (.dp (mergeG ps)) W) : Ca F T (rDictT T.K) [.tupz (ps.map fun p => .tup [kD p.1, p.2])] W R :=
  ca_fz (ca_dictT fun p hp => ⟨p, _, W, _, rfl, List.Perm.refl _, .dct _ _, h⟩)
end
end N
set_option Elab.async false
set_option linter.all false
set_option maxRecDepth 100000
set_option maxHeartbeats 1000000
namespace N
open PySem PySem.Spec PyProof.Rows L2
def rlNames : List Str := ["rows", "forms_by_mark"]
abbrev rowsR (rs : List (Nat × Fm)) : D := .tup (rs.map fun p => .tup [.str (sg p.1), .fm p.2])
abbrev rowsZ (rs : List (Nat × Fm)) : D := .tupz (rs.map fun p => .tup [.str (sg p.1), .fm p.2])
def rlPs (rs : List (Nat × Fm)) : List (Key × D) := rs.map fun p => ((Sum.inr (sg p.1) : Key), .fm p.2)
def rlD (rs : List (Nat × Fm)) : D := .obj 3 rlNames [rowsZ rs, .dct ((rlPs rs).map (·.1)) ((rlPs rs).map (·.2))]
abbrev argR (es : List (Nat × D × Fm)) : D := .tup (es.map fun e => .tup [.str (sg e.1), e.2.1])
def rsOf (es : List (Nat × D × Fm)) : List (Nat × Fm) := es.map fun e => (e.1, e.2.2)
theorem rlPs_pairs (rs : List (Nat × Fm)) : (rlPs rs).map (fun p => D.tup [kD p.1, p.2]) = rs.map fun p => D.tup [.str (sg p.1), .fm p.2] := by
  unfold rlPs
  rw [List.map_map]
  rfl
theorem rlPs_merge {rs : List (Nat × Fm)} (h : rlOk rs) : mergeG (rlPs rs) = rlPs rs := by
  refine mergeG_nd ?_
  unfold rlPs
  rw [List.map_map, List.nodup_iff_pairwise_ne, List.pairwise_map]
  have := h.asc
  rw [List.pairwise_map] at this
  exact this.imp fun {a b} lt e => by
    have e : Sum.inr (sg a.1) = (Sum.inr (sg b.1) : Key) := e
    have := sg_inj (Sum.inr.inj e)
    omega
def S_checkrows : FS := fun ds W post => ∃ es : List (Nat × D × Fm), ds = [argR es] ∧ W = [] ∧ (∀ e ∈ es, Opd e.2.1 e.2.2) ∧ rlOk (rsOf es) ∧ post .non []
def S_initRu : FS := fun ds W post => ∃ (x : Addr) (es : List (Nat × D × Fm)), ds = [.adr x, argR es] ∧ W = [(x, .ins 3 [] [])] ∧ (∀ e ∈ es, Opd e.2.1 e.2.2) ∧ rlOk (rsOf es) ∧
  post .non [(x, .ins 3 rlNames [rowsZ (rsOf es), .dct ((rlPs (rsOf es)).map (·.1)) ((rlPs (rsOf es)).map (·.2))])]
def S_marksRu : FS := fun ds W post => ∃ rs : List (Nat × Fm), ds = [rlD rs] ∧ W = [] ∧ rlOk rs ∧ post (.str (marksS rs)) []
section
variable {F : FmKit} {T : Kx} {G : Gm} {W : Om} {R : D → Om → Prop} {tr : TA} {E : XK}
theorem ev_mkRu (h : EvA F T tr G W fun ds W1 => ∃ es : List (Nat × D × Fm), ds = [argR es] ∧ (∀ e ∈ es, Opd e.2.1 e.2.2) ∧ rlOk (rsOf es) ∧ R (rlD (rsOf es)) W1) : Ev F T (tMake (T.cl 3) (spN F T S_initRu) [] E tr) G W R :=
  ev_fz (ev_make (fun C H O σ w Q q => h C H O σ w Q fun ds W1 H1 O1 vs ⟨es, e, he, hr, r⟩ n k => q ds W1 H1 O1 vs (fun x hx => by
    subst e
    exact ⟨[(x, .ins 3 [] [])], W1, List.Perm.refl _, x, es, rfl, rfl, he, hr, rfl, x, _, W1, rlD (rsOf es), rfl, List.Perm.refl _, .obj _ _ _, r⟩) n k))
end
end N
set_option Elab.async false
set_option linter.all false
set_option maxRecDepth 100000
namespace N
open PySem PySem.Spec PyProof.Rows L2
def S_isatomN : FS := fun ds W post => ∃ d : D, ds = [d] ∧ W = [] ∧ ((∃ x : Str, d = .str x ∧ x.length ≤ 16777216 ∧ post (.bl (isLet x)) []) ∨ (notStr d ∧ post (.bl false) []))
def isCap (x : Str) : Bool := isLet x && decide (∀ c ∈ lets x, c ≤ 90)
def S_ismarkN : FS := fun ds W post => ∃ d : D, ds = [d] ∧ W = [] ∧ ((∃ x : Str, d = .str x ∧ x.length ≤ 16777216 ∧ post (.bl (isCap x)) []) ∨ (notStr d ∧ post (.bl false) []))
theorem lets_sg1 (c : Nat) : lets (sg c) = [c] := rfl
theorem cap_low (c : Nat) : decide (∀ d ∈ lets (sg c), d ≤ 90) = decide (c ≤ 90) := decide_eq_decide.mpr ⟨fun h => h c (by rw [lets_sg1]; exact List.mem_cons_self), fun h d hd => by
  rw [lets_sg1, List.mem_singleton] at hd
  omega⟩
theorem caps_dec {c : Nat} (h : (65 ≤ c ∧ c ≤ 90) ∨ (97 ≤ c ∧ c ≤ 122)) : decide (c ∈ ("ABCDEFGHIJKLMNOPQRSTUVWXYZ" : Str).cps.toList) = (true && decide (∀ d ∈ lets (sg c), d ≤ 90)) := by
  rw [cap_low, Bool.true_and]
  have k : ∀ c ∈ List.range 123, 65 ≤ c → decide (c ∈ ("ABCDEFGHIJKLMNOPQRSTUVWXYZ" : Str).cps.toList) = decide (c ≤ 90) := by decide +kernel
  exact k c (List.mem_range.mpr (by omega)) (by omega)
theorem isCap_sg {c : Nat} (h1 : 65 ≤ c) (h2 : c ≤ 90) : isCap (sg c) = true := by
  unfold isCap
  rw [isLet_sg, cap_low, decide_eq_true (Or.inl ⟨h1, h2⟩), decide_eq_true h2]
  rfl
end N
set_option Elab.async false
set_option linter.all false
set_option maxRecDepth 100000
set_option maxHeartbeats 1000000
namespace N
open PySem PySem.Spec PyProof.Rows L2
/-- a clause: the class, the slot of its name, its suite -/
abbrev Clz := Value × Nat × (Addr → Value → Option Addr → TS)
/-- what some clauses wish, from the first one on -/
def wCls (K : PySem.W.Frag) (Wo : WX) : List Clz → Ends → WX
  | [], _ => Wo
  | z :: r, D => wAs K z.1 z.2.1 z.2.2 (wCls K Wo r D) D
inductive HdA (X : Cx) : List ExceptHandler → List Clz → Prop
  | nil : HdA X [] []
  | cons {x n : Str} {c : Value} {i : Nat} {ts : Addr → Value → Option Addr → TS} {y : Stmt} {ys : List Stmt} {p1 p2 : Pos} {hds : List ExceptHandler} {l : List Clz}
      (slot : X.N[i]? = some n) (kind : X.env.kindOf n = some .local) (named : Names X x c)
      (does : ∀ (a : Addr) (o : Obj) (cls : Value) (d : Option Addr) (pn : List (Addr × Obj)), Zc cls d o → (∃ vs, o.data = .fields vs) → PSs (X.suite a ((a, o) :: pn)) (y :: ys) (ts a cls d))
      (rest : HdA X hds l) : HdA X (.ExceptHandler (some (.Name x p1)) (some n) (y :: ys) p2 :: hds) ((c, i, ts) :: l)
/-- an exception on the ground, ahead of the clauses -/
structure Lnd (X : Cx) (pins : List (Addr × Obj)) (σ : L2.St) (H : Hp) (a : Addr) (cls : Value) (d : Option Addr) (B : Heap) (sI s : Shared) : Prop where
  stk : X.stack = X.env :: X.outer
  frm : X.env.frame = some X.env.locals
  inv : Inv X pins σ H sI
  base : ∀ b o, sI.heap.get? b = some o → b ∉ frs X.stack → B.get? b = some o
  up : sI.heap.UpToSlots s.heap
  fly : HandSPX.FlyingZ B (X.env :: X.outer) a (Zc cls d) s.heap
  new : H a = none
  os : s.os = sI.os
  bare : AllBare s.gens
section
variable {X : Cx} {pins : List (Addr × Obj)} {σ : L2.St} {H : Hp} {a : Addr} {cls : Value} {d : Option Addr} {B : Heap} {sI s : Shared} {D : Ends} {Wo : WX}
theorem Lnd.now (L : Lnd X pins σ H a cls d B sI s) : Inv X pins σ H s := L.inv.landed L.base L.fly.1 L.up L.os L.bare
theorem Lnd.held (L : Lnd X pins σ H a cls d B sI s) : ∃ o vs, s.heap.get? a = some o ∧ Zc cls d o ∧ o.data = .fields vs ∧ Inv (X.suite a ((a, o) :: (X.pn ++ pins))) [] σ H s := by
  obtain ⟨o, vs, ho, hz, hd⟩ := L.fly.there
  have far : a ∉ frs (X.env :: X.outer) := fun m => by
    obtain ⟨_, o', ho', nd⟩ := L.fly.2.2.1.mem m
    cases ho.symm.trans ho'
    exact nd _ hd
  refine ⟨o, vs, ho, hz, hd, L.now.suite ho hd L.new (fun e => far ?_) fun m => ?_⟩
  · exact List.mem_filterMap.mpr ⟨X.env, List.mem_cons_self, by rw [L.frm, e]⟩
  · obtain ⟨v, hv, e⟩ := List.mem_filterMap.mp m
    exact far (List.mem_filterMap.mpr ⟨v, List.mem_cons_of_mem _ hv, e⟩)
/-- no clause is left: it goes on up -/
theorem Lnd.none_left (L : Lnd X pins σ H a cls d B sI s) (tk : Takes X Wo) (w : Wo cls d σ H) : wpAny (model X.prog X.w) X.A (handleBy (.ref a) X.env []) (SP X pins D) X.xe s := by
  refine wpAny_handleBy_nil ?_
  obtain ⟨_, _, _, o, vs, T, _, _, ho, _, hd, h1, _⟩ := id L.fly
  unfold PySem.passOn
  refine wpAny_bind (wpAny_field ho hd h1 ?_)
  rw [if_neg (by simp)]
  have up : wpAny (model X.prog X.w) X.A (setFlight (.ref a) X.env.frame) (fun _ s4 => wpAny (model X.prog X.w) X.A (throw (.ref a) : Sem Flow) (SP X pins D) X.xe s4) X.xe s := by
    rw [L.frm]
    refine HandSPX.setFlight_upZ L.fly fun h' hh u => wpAny_throw (tk _ _ ?_)
    refine ⟨a, B, sI, pins, σ, H, cls, d, rfl, L.inv, L.base, L.up.trans u, .inr (.inr ?_), L.new, L.os, L.bare, w⟩
    rw [L.stk]
    exact hh
  first
    | exact wpAny_bind (wpAny_pure (wpAny_bind up))
    | exact wpAny_bind up
/-- the clauses, one behind the other -/
theorem Lnd.clauses (L : Lnd X pins σ H a cls d B sI s) (tk : Takes X Wo) (nd : X.N.Nodup) {hds : List ExceptHandler} {l : List Clz} (h : HdA X hds l) (w : wCls X.K Wo l D cls d σ H) :
    wpAny (model X.prog X.w) X.A (handleBy (.ref a) X.env hds) (SP X pins D) X.xe s := by
  induction h with
  | nil => exact L.none_left tk w
  | @cons x n c i ts y ys p1 p2 hds l slot kind named does rest ih =>
    obtain ⟨b, is, yes, no⟩ := w
    obtain ⟨o, vs, ho, hz, hd, S⟩ := L.held
    have ty : PySem.W.Looks (model X.prog X.w) s.heap (typeOf (.ref a)) cls := fun _ _ _ _ k q => wpAny_typeOf_ref (k _ _ ho) (by rw [hz.1]; exact q)
    have look := PySem.W.exm_one (M := model X.prog X.w) L.now.kIn ty is
    have name : ∀ {Q E : Value → Shared → Prop}, Q c s → wpAny (model X.prog X.w) (X.A.mark (some (.ref a))) (eval (.Name x p1) X.env) Q E s := fun q => by
      obtain ⟨g, nb, m | ⟨m, v, nn⟩⟩ := named
      · exact ld_glob (X := X.suite a ((a, o) :: (X.pn ++ pins))) S g m q nb
      · exact ld_blt (X := X.suite a ((a, o) :: (X.pn ++ pins))) S g m v q nn nb
    refine wpAny_handleBy_cons (codeAny_handlers_test (name (look.here ?_))) (by intro q; cases q)
    cases b with
    | false => exact ih (no rfl)
    | true =>
      refine codeAny_handlers_suite_as ?_
      refine HandSPX.lands_againZ L.fly fun h4 fl up => ?_
      have L4 : Lnd X pins σ H a cls d B sI { s with heap := h4 } := ⟨L.stk, L.frm, L.inv, L.base, L.up.trans up, fl, L.new, L.os, L.bare⟩
      obtain ⟨o4, vs4, _, hz4, hd4, S4⟩ := L4.held
      refine store_ok (X := X.suite a ((a, o4) :: (X.pn ++ pins))) (v := .ref a) S4 nd slot (.inl kind) rfl (fun s5 S5 => ?_) (.inr kind)
      have off : ∀ {σ6 : L2.St} {H6 : Hp} {s6 : Shared} {Q : Shared → Prop}, Inv (X.suite a ((a, o4) :: (X.pn ++ pins))) [] σ6 H6 s6 → (∀ s7, Inv X pins (σ6.set i none) H6 s7 → Q s7) →
          wpAny (model X.prog X.w) X.A (do bindName X.env n .none; unbindBehindTheSuite X.env n p2) (fun _ s7 => Q s7) X.xe s6 := fun S6 q => gone_ok (S6.unsuite L.inv.ok) nd slot kind q
      refine wpAny_mono ((does a o4 cls d (X.pn ++ pins) hz4 ⟨_, hd4⟩).run [] s5 _ H _ S5 (yes rfl a L.new)) (fun f s6 r => ?_) (fun _ _ z => z.elim)
      match f, r with
      | .next, ⟨_, _, S6, q⟩ => exact off S6 fun _ J => ⟨_, _, J, q⟩
      | .brk, ⟨_, _, S6, q⟩ => exact off S6 fun _ J => ⟨_, _, J, q⟩
      | .cont, ⟨_, _, S6, q⟩ => exact off S6 fun _ J => ⟨_, _, J, q⟩
      | .ret _, ⟨_, _, _, S6, rr, q⟩ => exact off S6 fun _ J => ⟨_, _, _, J, rr, q⟩
theorem ps_try_all {body : List Stmt} {h0 : ExceptHandler} {hds : List ExceptHandler} {l : List Clz} {pos : Pos} {tb : WX → TS} (hs : X.stack = X.env :: X.outer) (hf : X.env.frame = some X.env.locals) (nd : X.N.Nodup) (tk : Takes X Wo)
    (hb : ∀ (W : WX) (pn : List (Addr × Obj)) (xe : Value → Shared → Prop), Takes (X.tr pn xe) W → PassesOwn (model X.prog X.w) X.A X.env xe → PSs (X.tr pn xe) body (tb W))
    (hh : HdA X (h0 :: hds) l) : PS X (.Try body (h0 :: hds) [] [] pos) (fun D σ H => tb (wCls X.K Wo l D) D σ H) := by
  refine ⟨fun pins s σ H D I h => ?_⟩
  have ok := I.ok
  have frames : X.A.frames = some (X.env :: X.outer) := by rw [ok.frames, hs]
  let E3 : Value → Shared → Prop := fun e s1 => wpAny (model X.prog X.w) X.A (noteFrame e X.env) (fun _ s2 => wpAny (model X.prog X.w) X.A (setFlight e none) (fun _ s3 => wpAny (model X.prog X.w) X.A (handleBy e X.env (h0 :: hds)) (SP X pins D) X.xe s3) X.xe s2) X.xe s1
  have caught : Takes (X.tr (X.pn ++ pins) E3) (wCls X.K Wo l D) := fun u s1 ⟨a, B, sI, _, σ1, H1, cls, d, e, J, nb, up, sky, na, os, ag, w⟩ => by
    subst e
    have sky1 : Sky B (X.env :: X.outer) a (Zc cls d) X.env.locals s1.heap := hs ▸ sky
    show wpAny (model X.prog X.w) X.A (noteFrame (.ref a) X.env) _ _ _
    refine Sky.land Zc.steady frames hf sky1 fun h2 fl u2 => ?_
    exact Lnd.clauses (s := { s1 with heap := h2 }) ⟨hs, hf, J.ofTry ok, nb, up.trans u2, fl, na, os, ag⟩ tk nd hh w
  refine wpAny_Try_except (wpAny_mono ((hb (wCls X.K Wo l D) (X.pn ++ pins) E3 caught PassesOwn.looking).run [] s σ H D (I.toTry _) h) (fun f s1 r => ?_) fun _ _ x => x)
  match f, r with
  | .next, ⟨_, _, J, q⟩ => exact wpAny_execs_nil ⟨_, _, J.ofTry ok, q⟩
  | .brk, ⟨_, _, J, q⟩ => exact ⟨_, _, J.ofTry ok, q⟩
  | .cont, ⟨_, _, J, q⟩ => exact ⟨_, _, J.ofTry ok, q⟩
  | .ret _, ⟨_, _, _, J, rr, q⟩ => exact ⟨_, _, _, J.ofTry ok, rr, q⟩
end
section
variable {F : FmKit} {T : Kx} {G : Gm} {W : Om} {E : En} {ex : EX} {W0 : WX}
/-- what a clause owes -/
def ClzOk (F : FmKit) (T : Kx) (E : En) (i : Nat) (sx : Addr → Value → Option Addr → TS) (c : Nat) (d : Addr) (G : Gm) (W : Om) : Prop := ∀ a, Sw F T (sx a (.ref (T.cl c)) (dq c d)) (G.set i (some (.adr a))) W
      { nx := fun G2 W2 => E.nx (G2.set i none) W2, rt := E.rt, bk := fun G2 W2 => E.bk (G2.set i none) W2, ct := fun G2 W2 => E.ct (G2.set i none) W2 }
theorem XOk.clause {C H : Hp} {B : Ends} {sx : Addr → Value → Option Addr → TS} {cc i : Nat} {ex1 exr : EX} {Wr : WX} (b : EnOk F T C H E B) (xr : XOk F T C H exr Wr)
    (hs : ∀ c d G' W', ex1 c d G' W' → ∃ t, PySem.W.exmOne T.K (.ref (T.cl c)) (.ref (T.cl cc)) = some t ∧ (t = true → ClzOk F T E i sx c d G' W') ∧ (t = false → exr c d G' W')) :
    XOk F T C H ex1 (wAs T.K (.ref (T.cl cc)) i sx Wr B) := fun c d G' W' H' O' σ' e n l => by
  obtain ⟨t, h1, h2, h3⟩ := hs c d G' W' e
  refine ⟨t, h1, fun q a ha => ?_, fun q => xr c d G' W' H' O' σ' (h3 q) n l⟩
  refine h2 q a C H' O' _ ⟨n.dis, n.oc, l.set rfl, n.own⟩ _ ⟨fun G2 W2 H2 O2 σ2 z n2 l2 => b.nx _ W2 H2 O2 _ z (n.trans n2) (l2.forget none), fun d W2 H2 O2 v z n2 k2 => b.rt d W2 H2 O2 v z (n.trans n2) k2,
    fun G2 W2 H2 O2 σ2 z n2 l2 => b.bk _ W2 H2 O2 _ z (n.trans n2) (l2.forget none), fun G2 W2 H2 O2 σ2 z n2 l2 => b.ct _ W2 H2 O2 _ z (n.trans n2) (l2.forget none)⟩
theorem swx_try2 {tb : (Ends → WX) → TS} {s1 s2 : Addr → Value → Option Addr → TS} {c1 c2 i1 i2 : Nat} {ex1 : EX} (hp : ∀ w B, tb w B = tb (fun _ => w B) B) (hb : ∀ W1, SwX F T W1 (tb fun _ => W1) G W E ex1)
    (hs : ∀ c d G' W', ex1 c d G' W' → ∃ t, PySem.W.exmOne T.K (.ref (T.cl c)) (.ref (T.cl c1)) = some t ∧ (t = true → ClzOk F T E i1 s1 c d G' W') ∧
      (t = false → ∃ t, PySem.W.exmOne T.K (.ref (T.cl c)) (.ref (T.cl c2)) = some t ∧ (t = true → ClzOk F T E i2 s2 c d G' W') ∧ (t = false → ex c d G' W'))) :
    ∀ wx, wCls T.K W0 [(.ref (T.cl c1), i1, s1), (.ref (T.cl c2), i2, s2)] = wx → SwX F T W0 (tb wx) G W E ex := by
  rintro _ rfl
  intro C H O σ w xo B b
  rw [hp]
  refine hb _ C H O σ w ?_ B b
  exact XOk.clause b (XOk.clause (exr := ex) (ex1 := fun c d G' W' => ∃ t, PySem.W.exmOne T.K (.ref (T.cl c)) (.ref (T.cl c2)) = some t ∧ (t = true → ClzOk F T E i2 s2 c d G' W') ∧ (t = false → ex c d G' W')) b xo fun _ _ _ _ h => h) hs
end
end N
set_option Elab.async false
set_option linter.all false
set_option maxRecDepth 100000
set_option maxHeartbeats 4000000
set_option Elab.async false
set_option linter.all false
set_option maxRecDepth 100000
set_option maxHeartbeats 4000000
namespace N
open PySem PySem.Spec PyProof.Rows L2
def rOwnIx (C : Addr) (sp : Sp) (E : XK) : R2 := fun x y H Q => ∃ a dx fs, x = .ref a ∧ H a = some (.ins C dx fs) ∧ sp [x, y] H Q E
section
variable {X : Cx} {k j : Nat} {C : Addr} {sp : Sp} {o e : Expr} {to te : TE}
structure Opi (P : Program) (w : World) (K : PySem.W.Frag) (mg : Str → Option Value) (base : Heap) (k : Nat) (C : Addr) (m : Str) (sp : Sp) : Prop where
  ex : ∃ (f : Addr) (fd : FuncData) (ps : List Str), Own2 K C m f ∧ PySem.W.fnIn K f = true ∧ FnOk P w K mg base CX0 k f fd ps sp ∧ Binds K fd ps []
theorem pe_ixOwn {pos : Pos} (o2 : Opi X.prog X.w X.K X.mg X.base k C "__getitem__" sp) (hr : Room j X.A) (hk : k + 1 ≤ j) (ha : PE X o to) (hb : PE X e te) (hsl : ∀ v u, subscripted e true v u = runValue (.builtin "lifetime.subscript" ⟨[v, u], []⟩) := by intro _ _; rfl) : PE X (.Subscript o e pos) (tOp (rOwnIx C sp E0) to te) := by
  obtain ⟨f, fd, ps, o2, hf, h, b⟩ := o2.ex
  refine ⟨fun pins s σ H Q I hh => ?_⟩
  refine Subscript_ (binT ha hb I hh fun v u s2 x y H2 I2 rx ry q => ?_)
  obtain ⟨a, dx, fs, rfl, ha, q⟩ := q
  cases rx
  obtain ⟨od, J⟩ := inst_of I2 ha
  obtain ⟨m, hF⟩ := I2.fr
  exact PySem.W.sub_K hF I2.ok.mod.kin J o2.at_ hf o2.fn (run_at h ((hr.mono hk).in1) rfl b pass0 I2 (vs := [V.ref a, y]) (.cons rfl (.cons ry .nil)) q) (hsl _ _)
end
section
variable {F : FmKit} {P : Program} {w : World} {K : PySem.W.Frag} {mg : Str → Option Value} {base : Heap} {cl : Nat → Addr} {S : FS}
theorem opiD {m qual : Str} {C : Addr} {st : Stmt} {f : Addr} {fd : FuncData} {N ps : List Str} {k : Nat} (o : Own2 K C m f) (Fn : Fun K m qual st f fd) (Sc : FnScope N ps (defScope st)) (len : ∀ ds W post, S ds W post → ds.length = ps.length)
    (hb : ∀ (kV doc pm : Value) (an : Option Addr) (cdv ct : Value) (us : List Value), us.length = ps.length → bindArgs (PySem.W.fnOf m qual (defArgs st) (defBody st) (defScope st) .none kV doc pm an cdv ct) ⟨us, []⟩ = pure (ps.zip us))
    (body : ∀ (cdv : Value) (A : Around) (outer : List Env) (s : Shared) (H : Hp) (E : XK), Room k (A.deeper (envOfC qual (defScope st) s.heap.objs.size f cdv)) →
      ∃ t, PSs (cxOf CX0 P w K mg base N qual (defScope st) f cdv A outer s H E).nox (defBody st) t ∧ ∀ ds W post, S ds W post → Sw F ⟨K, cl⟩ t (startD N ds) W (E_ post)) : Opi P w K mg base (k + 1) C m (spN F ⟨K, cl⟩ S) := by
  obtain ⟨f2, fd2, ps2, o2, h, b⟩ := (opnD o Fn Sc len hb body).ex
  have e : f2 = f := by
    have h1 := o2.at_
    rw [o.at_] at h1
    cases h1
    rfl
  subst e
  refine ⟨f2, fd2, ps2, o2, ?_, h, b⟩
  obtain ⟨oc, od, _, _, _, _, _, _, osl, _, lk, _⟩ := Fn.ex
  unfold PySem.W.fnIn
  rw [lk]
end
section
variable {F : FmKit} {T : Kx} {C H H' O O' : Hp} {G : Gm} {W W' : Om} {R : D → Om → Prop} {S : FS} {to te : TE} {c : Nat}
theorem bo_ownIx {d e : D} {ns : List Str} {l : List D} (i1 : Inst F W d c ns l) (h : Hand S [d, e] W R) : Bo F T (rOwnIx (T.cl c) (spN F T S) E0) d e W R := fun C H O di oc ow x y hx hy Q q => by
  obtain ⟨a, dx, fs, ex, ha, _⟩ := i1.at di ow hx
  exact ⟨a, dx, fs, ex, ha, h.run di oc ow ⟨x, _, rfl, hx, .one hy⟩ q⟩
end
end N
set_option Elab.async false
set_option linter.all false
set_option maxRecDepth 100000
set_option maxHeartbeats 1000000
namespace N
open PySem PySem.Spec PyProof.Rows L2
/-- an own method by its name that may raise: operators, o[k] -/
structure OwX (P : Program) (w : World) (K : PySem.W.Frag) (mg : Str → Option Value) (base : Heap) (k : Nat) (C : Addr) (m : Str) (sp : Sp) : Prop where
  ex : ∃ (f : Addr) (fd : FuncData) (ps : List Str), Own2 K C m f ∧ PySem.W.fnIn K f = true ∧ FnOk P w K mg base (L2.CX P w) k f fd ps sp ∧ Binds K fd ps []
/-- a method that may raise, by position and by names -/
structure MetX (P : Program) (w : World) (K : PySem.W.Frag) (mg : Str → Option Value) (base : Heap) (k : Nat) (C : Addr) (m : Str) (ks : List Str) (gV : List V → List V → List V) (sp : Sp) : Prop where
  ex : ∃ (f : Addr) (fd : FuncData) (ps : List Str) (g : List Value → List Value → List Value), Cls K C ∧ Meth K C m f ∧ FnOk P w K mg base (L2.CX P w) k f fd ps sp ∧ Binds K fd ps [] ∧ KBn K fd ps 1 ks g gV
def tMetS (C : Addr) (m : Str) (sp : Sp) (E : L2.St → XK) (ta : TE) (t : TA) : TE := fun σ H Q => ta σ H fun x H1 => ∃ a dx fs, x = V.ref a ∧ H1 a = some (.ins C dx fs) ∧ fs.lookup m = none ∧ t σ H1 fun vs H2 => sp (.ref a :: vs) H2 Q (E σ)
section
variable {X : Cx} {W : WX} {k j : Nat} {C f : Addr} {m : Str} {fd : FuncData} {ps ks : List Str} {sp : Sp} {pins : List (Addr × Obj)} {σ : L2.St} {H : Hp} {s : Shared} {a b o e : Expr} {es : List Expr} {ta tb to te : TE} {t tk : TA} {pos apos : Pos} {gV : List V → List V → List V} {kws : List Keyword}
/-- a raising def is called from anywhere within the body -/
theorem run_atS {A : Around} {vs : List V} {us : List Value} {as : Args} {Q : VK} (F : FnOk X.prog X.w X.K X.mg X.base (L2.CX X.prog X.w) k f fd ps sp) (hr : Room k A) (fr : A.frames = X.A.frames) (tk : Takes X W) (I : Inv X pins σ H s)
    (hb : BindsTo s fd as (ps.zip us)) (r : Vals vs us) (h : sp vs H Q (WE W σ)) : codeAny (model X.prog X.w) A (.call (.ref f) as) (fun r s' => match r with | .ok (.ret v) => EP X pins σ Q v s' | .ok _ => False | .error e => X.xe e s') s := by
  have e := I.env0
  have e0 : Env0 X.prog X.w X.K X.mg X.base A X.stack s H := ⟨by rw [fr]; exact e.frames, e.mod, e.bs, e.bsz, e.funs, e.frf, e.hok, e.bare⟩
  refine codeAny_mono (F.run A X.stack s H as us vs Q _ hr e0 hb r h) fun r s' hq => ?_
  have z := endS tk I hq
  cases r with
  | error e => exact z
  | ok fl =>
    cases fl with
    | ret u => exact z
    | next => exact False.elim z
    | brk => exact False.elim z
    | cont => exact False.elim z
theorem run_atP {A : Around} {vs : List V} {us : List Value} {Q : VK} (F : FnOk X.prog X.w X.K X.mg X.base (L2.CX X.prog X.w) k f fd ps sp) (hr : Room k A) (fr : A.frames = X.A.frames) (hb : Binds X.K fd ps []) (tk : Takes X W) (I : Inv X pins σ H s)
    (r : Vals vs us) (h : sp vs H Q (WE W σ)) : wpAny (model X.prog X.w) A (call (.ref f) us) (EP X pins σ Q) X.xe s := by
  have hl : us.length = ps.length := by rw [← r.length]; exact F.len _ _ _ _ h
  have hb' := hb s us I.kIn (by simpa using hl)
  simp only [List.append_nil] at hb'
  exact wpAny_call (run_atS F hr fr tk I hb' r h)
theorem pe_mtX {pl : Sem Bool} (c : MetX X.prog X.w X.K X.mg X.base k C m ks gV sp) (hr : Room j X.A) (hk : k ≤ j) (tk : Takes X W) (he : PE X o ta) (ha : PA X (e :: es) t)
    (hst : starEach (e :: es) X.env = (false, eval e X.env) :: starEach es X.env := by rfl) (hpl : (backTo pos (starEach es X.env)).any (·.1) = false := by rfl)
    (ht : eval (.Call (.Attribute o m apos) (e :: es) [] pos) X.env = (do
      let ov ← eval o X.env
      standAt apos.atName
      let (f, first) ← holding [ov] (getMethod ov m pl)
      callWith pos f first (backTo pos (starEach (e :: es) X.env)) (backToKw pos (keywordEach [] X.env))) := by rfl) :
    PE X (.Call (.Attribute o m apos) (e :: es) [] pos) (tMetS C m sp (WE W) ta t) := by
  obtain ⟨f, fd, ps, g, hc, hm, F, bi, _⟩ := c.ex
  refine ⟨fun pins s σ H Q I h => ?_⟩
  refine PySem.W.methodCall_KW (pl := pl) (thn (he.run pins s σ H _ I h) fun u s1 ⟨x, H1, I1, rx, a, dx, fs, ex, ea, l, q⟩ => ?_) ht
  subst ex
  obtain rfl : u = Value.ref a := rx
  refine getmeth_ok I1 ea hc hm l ?_
  refine PySem.W.callWith_K (first := [.ref a]) (h₀ := X.base) I.ok.mod.kin hm.kp (thn (ha.run pos pins s1 σ H1 _ I1 q) fun us s2 ⟨vs, H2, I2, r, q2⟩ => ⟨I2.kIn, ?_⟩) hst hpl
  exact run_atP F (hr.mono hk) rfl bi tk I2 (us := .ref a :: us) (vs := .ref a :: vs) (.cons rfl r) q2
theorem pe_mt0X {pl : Sem Bool} (c : MetX X.prog X.w X.K X.mg X.base k C m ks gV sp) (hr : Room j X.A) (hk : k ≤ j) (tk : Takes X W) (he : PE X o ta)
    (ht : eval (.Call (.Attribute o m apos) [] [] pos) X.env = (do
      let ov ← eval o X.env
      standAt apos.atName
      let (f, first) ← holding [ov] (getMethod ov m pl)
      callWith pos f first (backTo pos (starEach [] X.env)) (backToKw pos (keywordEach [] X.env))) := by rfl) :
    PE X (.Call (.Attribute o m apos) [] [] pos) (tMetS C m sp (WE W) ta tNil) := by
  obtain ⟨f, fd, ps, g, hc, hm, F, bi, _⟩ := c.ex
  refine ⟨fun pins s σ H Q I h => ?_⟩
  refine PySem.W.methodCall_KW (pl := pl) (thn (he.run pins s σ H _ I h) fun u s1 ⟨x, H1, I1, rx, a, dx, fs, ex, ea, l, q⟩ => ?_) ht
  subst ex
  obtain rfl : u = Value.ref a := rx
  refine getmeth_ok I1 ea hc hm l ?_
  refine PySem.W.callWith_of (P := fun h => X.K.In h) (by rfl) (PySem.W.keeps_K hm.kp) ?_
  refine evalArgs_kw2_nil (by rfl) ?_
  show wpAny _ _ (pure []) _ _ _
  refine wpAny_pure ⟨I1.kIn, ?_⟩
  exact run_atP F (hr.mono hk) rfl bi tk I1 (us := [.ref a]) (vs := [.ref a]) (.cons rfl .nil) q
def rIsX1 (K : PySem.W.Frag) (a : Addr) (cls : Value) (d : Option Addr) : List V → Hp → VK → Prop := fun xs H Q => ∃ (c : V) (cv : Value) (r : Bool) (D dd : Addr) (fs : List (Str × V)),
  xs = [.ref a, c] ∧ cls = .ref D ∧ d = some dd ∧ H dd = some (.xd fs) ∧ ExcC K D ∧ (∀ u, RelV c u → u = cv) ∧ PySem.W.kitOne K (.ref D) cv = some r ∧ Q (.bl r) H
theorem clsIn_of {K : PySem.W.Frag} {D : Addr} (h : PySem.W.hasDictIn K D = true) : (PySem.W.clsIn K D).isSome = true := by
  obtain ⟨cd, hc, _⟩ := PySem.W.any_some h
  rw [hc]
  rfl
theorem call_isX1 {a : Addr} {cls : Value} {d : Option Addr} {oe : Obj} {pn : List (Addr × Obj)} (hz : Zc cls d oe) (hf : ∃ vs, oe.data = .fields vs) : CallR (X.suite a ((a, oe) :: pn)) (.builtin "isinstance") (rIsX1 X.K a cls d) := by
  intro pins s σ H xs us Q I r h
  obtain ⟨c, cv, b, D, dd, fs, rfl, rfl, rfl, ed, C, hcv, e, q⟩ := h
  cases r with
  | cons rx rr =>
    cases rr with
    | cons rt rr =>
      cases rr
      cases rx
      have ec := hcv _ rt
      subst ec
      obtain ⟨hget, _⟩ := I.pin (a, oe) (List.mem_append.mpr (.inl List.mem_cons_self))
      obtain ⟨vs, hv⟩ := hf
      have hx : ObjOk X.prog X.w H s.heap dd (.xd fs) := I.hok dd _ ed
      obtain ⟨mA, hns, _⟩ := hx
      obtain ⟨od, ho, _⟩ := lookIn_ns hns
      have J : PySem.W.InstAt s.heap a oe D (some od) := ⟨hget, hz.1, by unfold PySem.W.notCls; rw [hv] <;> rfl, by rw [hz.2]; exact ho⟩
      exact PySem.W.kia_one (PySem.W.kitx_exc (clsIn_of C.hd) C.hg C.hk C.hs C.ha C.hn C.ht C.hm) I.kIn J e (fun z => nomatch z) fun tk => ⟨.bl b, H, I.kept (t' := tk) fun _ _ z => z, rfl, q⟩
/-- .. with a dict or without one -/
def rIsX0 (K : PySem.W.Frag) (a : Addr) (cls : Value) (d : Option Addr) : List V → Hp → VK → Prop := fun xs H Q => ∃ (c : V) (cv : Value) (r : Bool) (D : Addr),
  xs = [.ref a, c] ∧ cls = .ref D ∧ d = none ∧ ExcC K D ∧ (∀ u, RelV c u → u = cv) ∧ PySem.W.kitOne K (.ref D) cv = some r ∧ Q (.bl r) H
def rIsX (K : PySem.W.Frag) (a : Addr) (cls : Value) (d : Option Addr) : List V → Hp → VK → Prop := fun xs H Q => rIsX1 K a cls d xs H Q ∨ rIsX0 K a cls d xs H Q
theorem call_isX {a : Addr} {cls : Value} {d : Option Addr} {oe : Obj} {pn : List (Addr × Obj)} (hz : Zc cls d oe) (hf : ∃ vs, oe.data = .fields vs) : CallR (X.suite a ((a, oe) :: pn)) (.builtin "isinstance") (rIsX X.K a cls d) := by
  intro pins s σ H xs us Q I r h
  rcases h with h | ⟨c, cv, b, D, rfl, rfl, rfl, C, hcv, e, q⟩
  · exact call_isX1 hz hf pins s σ H xs us Q I r h
  · exact call_isE C hz hf pins s σ H _ us Q I r ⟨c, cv, b, rfl, hcv, e, q⟩
end
section
variable {F : FmKit} {T : Kx} {G : Gm} {W : Om} {ex : EX} {W0 : WX} {S : FX} {R : D → Om → Prop} {te ta tb : TE} {tr tk : TA}
theorem evx_meth {c : Nat} {m : Str} (h : Ev F T ta G W fun d W1 => ∃ ns l, Inst F W1 d c ns l ∧ m ∉ ns ∧ EvA F T tr G W1 fun ds W2 => HandX S (d :: ds) W2 R fun c d W' => ex c d G W') : EvX F T W0 (tMetS (T.cl c) m (spX F T S) (WE W0) ta tr) G W R ex := fun C H O σ w x Q q =>
  h C H O σ w _ fun d W1 H1 O1 u ⟨ns, l, i, hm, ha⟩ n1 k1 => by
    obtain ⟨p, dx, fs, ep, hp, h2, _⟩ := i.at n1.dis n1.own k1
    subst ep
    refine ⟨p, dx, fs, rfl, hp, look_none (by rw [h2]; exact hm), ha C H1 O1 σ (w.step n1) _ fun ds W2 H2 O2 vs hh n2 k2 => ?_⟩
    exact hh.run n2.dis n2.oc n2.own ⟨_, _, rfl, k1.mono n2.ext, k2⟩ (fun d W' H' O' v r n3 kd => q d W' H' O' v r ((n1.trans n2).trans n3) kd)
      fun c d W' H' O' r n3 => x c d G W' H' O' σ r ((n1.trans n2).trans n3) (w.loc.mono ((n1.trans n2).trans n3).ext)
theorem ca_isX0 {c b : Nat} {r : Bool} {a : Addr} (ec : ExcC T.K (T.cl c)) (hk : PySem.W.kitOne T.K (.ref (T.cl c)) (.ref (T.cl b)) = some r) (h : R (.bl r) W) :
    Ca F T (rIsX T.K a (.ref (T.cl c)) none) [.adr a, .adr (T.cl b)] W R := fun C H O di oc ow xs hx Q q => by
  obtain ⟨x, r1, e1, k1, k2⟩ := hx
  obtain ⟨y, r2, e2, k3, k4⟩ := k2
  have k4 : r2 = [] := k4
  have k1 : x = .ref a := k1
  have k3 : y = .ref (T.cl b) := k3
  subst k4 k1 k3 e2 e1
  exact .inr ⟨.ref (T.cl b), .ref (T.cl b), r, T.cl c, rfl, rfl, rfl, ec, fun u hu => by cases hu; rfl, hk, q (.bl r) W H O (.bl r) h (Nx.refl di oc ow) rfl⟩
end
section
variable {P : Program} {w : World} {K : PySem.W.Frag} {mg : Str → Option Value} {base : Heap} {F : FmKit} {cl : Nat → Addr} {S : FX}
theorem owXD {m qual : Str} {C : Addr} {st : Stmt} {f : Addr} {fd : FuncData} {N ps : List Str} {k : Nat} (o : Own2 K C m f) (Fn : Fun K m qual st f fd) (Sc : FnScope N ps (defScope st)) (len : ∀ ds W post ex, S ds W post ex → ds.length = ps.length)
    (hb : ∀ (kV doc pm : Value) (an : Option Addr) (cdv ct : Value) (us : List Value), us.length = ps.length → bindArgs (PySem.W.fnOf m qual (defArgs st) (defBody st) (defScope st) .none kV doc pm an cdv ct) ⟨us, []⟩ = pure (ps.zip us))
    (body : ∀ (cdv : Value) (A : Around) (outer : List Env) (s : Shared) (H : Hp) (E : XK), Room k (A.deeper (envOfC qual (defScope st) s.heap.objs.size f cdv)) →
      ∃ t, PSs (cxOf (L2.CX P w) P w K mg base N qual (defScope st) f cdv A outer s H E) (defBody st) t ∧ ∀ ds W post ex, S ds W post ex → SwX F ⟨K, cl⟩ (WD E) t (startD N ds) W (E_ post) fun c d _ W => ex c d W) :
    OwX P w K mg base (k + 1) C m (spX F ⟨K, cl⟩ S) := by
  refine ⟨f, fd, ps, o, ?_, okX Fn Sc len body, Fn.binds hb⟩
  obtain ⟨oc, od, _, _, _, _, _, _, osl, _, lk, _⟩ := Fn.ex
  unfold PySem.W.fnIn
  rw [lk]
theorem metXD {m qual : Str} {C : Addr} {st : Stmt} {f : Addr} {fd : FuncData} {N ps ks : List Str} {g : List Value → List Value → List Value} {gV : List V → List V → List V} {k : Nat} (c : Cls K C) (me : Meth K C m f) (Fn : Fun K m qual st f fd) (Sc : FnScope N ps (defScope st)) (len : ∀ ds W post ex, S ds W post ex → ds.length = ps.length)
    (hb : ∀ (kV doc pm : Value) (an : Option Addr) (cdv ct : Value) (us : List Value), us.length = ps.length → bindArgs (PySem.W.fnOf m qual (defArgs st) (defBody st) (defScope st) .none kV doc pm an cdv ct) ⟨us, []⟩ = pure (ps.zip us))
    (kb : KBn K fd ps 1 ks g gV)
    (body : ∀ (cdv : Value) (A : Around) (outer : List Env) (s : Shared) (H : Hp) (E : XK), Room k (A.deeper (envOfC qual (defScope st) s.heap.objs.size f cdv)) →
      ∃ t, PSs (cxOf (L2.CX P w) P w K mg base N qual (defScope st) f cdv A outer s H E) (defBody st) t ∧ ∀ ds W post ex, S ds W post ex → SwX F ⟨K, cl⟩ (WD E) t (startD N ds) W (E_ post) fun c d _ W => ex c d W) :
    MetX P w K mg base (k + 1) C m ks gV (spX F ⟨K, cl⟩ S) :=
  ⟨f, fd, ps, g, c, me, okX Fn Sc len body, Fn.binds hb, kb⟩
end
end N
set_option linter.all false
namespace N
open PySem L2
def deNames : List Str := ["rules_now", "rules_ahead", "rules_later"]
/-- no built-in value is of this class -/
structure NotC (K : PySem.W.Frag) (C : Addr) : Prop where
  non : PySem.W.kitOne K (.type "NoneType") (.ref C) = some false
  bl : PySem.W.kitOne K (.type "bool") (.ref C) = some false
  int : PySem.W.kitOne K (.type "int") (.ref C) = some false
  tup : PySem.W.kitOne K (.type "tuple") (.ref C) = some false
  lst : PySem.W.kitOne K (.type "list") (.ref C) = some false
  dct : PySem.W.kitOne K (.type "dict") (.ref C) = some false
end N
set_option Elab.async false
set_option linter.all false
set_option maxRecDepth 100000
set_option maxHeartbeats 1000000
namespace N
open PySem PySem.Spec PyProof.Rows L2
def sSetX (C : Addr) (sp : Sp) (E : L2.St → XK) (td ti tv : TE) : TS := fun D σ H => tv σ H fun z H1 => td σ H1 fun x H2 => ti σ H2 fun y H3 => ∃ a dx fs, x = V.ref a ∧ H3 a = some (.ins C dx fs) ∧ sp [.ref a, y, z] H3 (fun _ H4 => D.nx σ H4) (E σ)
section
variable {X : Cx} {W : WX} {k j : Nat} {C : Addr} {sp : Sp} {o i value : Expr} {td ti tv : TE} {pos pos' : Pos}
theorem ps_setX (c : OwX X.prog X.w X.K X.mg X.base k C "__setitem__" sp) (hr : Room j X.A) (hk : k ≤ j) (nq : PySem.W.noSeq X.K C = true) (tk : Takes X W) (ho : PE X o td) (hi : PE X i ti) (hv : PE X value tv)
    (hs : swapsWith value (some (.Subscript o i pos')) pos.line X.env = pure false) : PS X (.Assign [.Subscript o i pos'] value pos) (sSetX C sp (WE W) td ti tv) := by
  obtain ⟨f, fd, ps, o2, hf, F, bi⟩ := c.ex
  refine ⟨fun pins s σ H D I h => ?_⟩
  refine wpAny_Assign_Subscript (thn (hv.run pins s σ H _ I h) fun r s1 ⟨z, H1, I1, rz, q1⟩ => thn (ho.run pins s1 σ H1 _ I1 q1) fun u s2 ⟨x, H2, I2, rx, q2⟩ => thn (hi.run pins s2 σ H2 _ I2 q2) fun iv s3 ⟨y, H3, I3, ry, a, dx, fs, ex, ea, q3⟩ => ?_) hs
  subst ex
  obtain rfl : u = Value.ref a := rx
  obtain ⟨od, J⟩ := inst_of I3 ea
  obtain ⟨m, hF⟩ := I3.fr
  refine PySem.W.ksp_setItem hF I3.ok.mod.kin J nq o2.at_ o2.fn ?_
  exact thn (run_atP F (hr.mono hk) rfl bi tk I3 (vs := [V.ref a, y, z]) (.cons rfl (.cons ry (.cons rz .nil))) q3) fun v s4 ⟨_, H4, I4, _, q4⟩ => ⟨σ, H4, I4, q4⟩
end
section
variable {F : FmKit} {T : Kx} {G : Gm} {W : Om} {En1 : En} {S : FX} {W0 : WX} {ex : EX} {ta tb tv : TE} {R : D → Om → Prop}
theorem swx_setX {c : Nat} (h : Ev F T tv G W fun z W1 => Ev F T ta G W1 fun d W2 => Ev F T tb G W2 fun y W3 => ∃ ns l, Inst F W3 d c ns l ∧ HandX S [d, y, z] W3 (fun _ W' => En1.nx G W') fun c d W' => ex c d G W') : SwX F T W0 (sSetX (T.cl c) (spX F T S) (WE W0) ta tb tv) G W En1 ex := fun C H O σ w x B b =>
  h C H O σ w _ fun z W1 H1 O1 zv h1 n1 k1 => h1 C H1 O1 σ (w.step n1) _ fun d W2 H2 O2 u h2 n2 k2 => h2 C H2 O2 σ ((w.step n1).step n2) _ fun y W3 H3 O3 yv ⟨ns, l, i1, hh⟩ n3 k3 => by
    obtain ⟨p, dx, fs, ep, hp, _⟩ := i1.at n3.dis n3.own (k2.mono n3.ext)
    subst ep
    have n13 := (n1.trans n2).trans n3
    exact ⟨p, dx, fs, rfl, hp, hh.run n3.dis n3.oc n3.own ⟨_, _, rfl, k2.mono n3.ext, _, _, rfl, k3, .one (k1.mono (n2.trans n3).ext)⟩ (fun d W' H' O' v r n4 kd => b.nx G W' H' O' σ r (n13.trans n4) (w.loc.mono (n13.trans n4).ext))
      fun c d W' H' O' r n4 => x c d G W' H' O' σ r (n13.trans n4) (w.loc.mono (n13.trans n4).ext)⟩
theorem isi_notC {c : Nat} {d : D} (z : NotC T.K (T.cl c)) (h : notStr d) (r : R (.bl false) W) : Ca F T (rIsi T.K) [d, .adr (T.cl c)] W R := by
  cases h with
  | non => exact ca_isi (.own _) tyd_non z.non r
  | bl b => exact ca_isi (.own _) tyd_bl z.bl r
  | int i => exact ca_isi (.own _) tyd_int z.int r
  | tup l => exact ca_isi (.own _) tyd_tup z.tup r
  | lst l => exact ca_isi (.own _) tyd_lst z.lst r
  | dct ks l => exact ca_isi (.own _) tyd_dct z.dct r
end
section
variable {F : FmKit} {T : Kx} {C H H' O O' : Hp} {G : Gm} {W W' : Om} {σ : L2.St} {R : D → Om → Prop} {te tv : TE} {t : TT} {vs : List Nat} {cell : Addr × OD}
/-- a dict comprehension along a locked dict -/
theorem ev_dcL {wi : TI} {g : TG} (h : EvIC F T wi G W cell fun ds W1 => ∃ I : Nat → List (Key × D) → Om → Prop, I 0 [] W1 ∧ (∀ i acc W', I i acc W' → cell ∈ W') ∧
      (∀ i d acc W', ds[i]? = some d → I i acc W' → Tw F T vs g d (wipeG G vs) fun G2 => EvT F T t G2 W' fun b W2 => if b = true then Ev F T te G2 W2 (fun y W3 => Ev F T tv G2 W3 fun z W4 => ∃ k, y = kD k ∧ acc.length < sizeLine ∧ I (i + 1) (putG acc k z) W4) else I (i + 1) acc W2) ∧
      (∀ acc W', I ds.length acc W' → ∀ p, p ∉ akeys W' → R (.adr p) ((p, .dp acc) :: W'))) : Ev F T (tDc wi g t te tv vs) G W R := fun C H O σ w Q q =>
  h C H O σ w _ fun J ds W1 H1 O1 ⟨I, i0, ic, turn, fin⟩ n1 wk Dp hD => by
    obtain ⟨n0, e0, cp⟩ := n1.hide (o := .dK []) hD
    refine ⟨fun i m X => m = ds.length - i ∧ i ≤ ds.length ∧ ∃ acc av W' H' O', X = ov O' H' ∧ Nx F T (upd C Dp (.dK av)) W' H1 H' O' ∧ (av.map (·.1) = acc.map (·.1) ∧ (acc.map (·.1)).Nodup ∧ DenL F T H' (acc.map (·.2)) (av.map (·.2))) ∧ I i acc W', ⟨ds.length, by simp, Nat.zero_le _, [], [], W1, H1, _, e0, n0, ⟨rfl, List.nodup_nil, (show DenL F T H1 (([] : List (Key × D)).map (·.2)) (([] : List (Key × V)).map (·.2)) from rfl)⟩, i0⟩, ?_⟩
    rintro i m X ⟨rfl, hi, acc, av, W', H', O', rfl, n, ⟨ka1, ka2, ka⟩, ii⟩
    have k := wk i H' O' _ _ n.ext n.dis n.own (ic _ _ _ ii)
    have lo1 := (w.loc.mono n1.ext).mono n.ext
    by_cases hlt : i < ds.length
    · obtain ⟨k1, k2⟩ := k.1 ds[i] (by simp [hlt])
      refine .inr ⟨k1, fun X2 => ∃ acc av W2 H2 O2, X2 = ov O2 H2 ∧ Nx F T (upd C Dp (.dK av)) W2 H1 H2 O2 ∧ (av.map (·.1) = acc.map (·.1) ∧ (acc.map (·.1)).Nodup ∧ DenL F T H2 (acc.map (·.2)) (av.map (·.2))) ∧ I (i + 1) acc W2, fun X2 y => ⟨ds.length - (i + 1), by omega, rfl, hlt, y⟩, fun x X2 y => ?_⟩
      obtain ⟨H2, s2, d2, rfl, kx⟩ := k2 x X2 y
      refine turn i ds[i] acc W' (by simp [hlt]) ii H2 _ _ x ((lo1.mono s2).wipe vs) d2.same kx _ fun G3 σ3 et l3 wz => ⟨wz.trans wipe_wipe, ?_⟩
      refine et (upd C Dp (.dK av)) H2 O' σ3 ⟨d2, n.oc, l3, n.own.mono s2⟩ _ fun b W3 H3 O3 r3 n3 => ?_
      have n03 : Nx F T (upd C Dp (.dK av)) W3 H1 H3 O3 := ⟨(n.ext.trans s2).trans n3.ext, n3.dis, n3.oc, n3.own⟩
      cases b with
      | false => exact ⟨acc, av, W3, H3, O3, rfl, n03, ⟨ka1, ka2, (ka.mono s2).mono n3.ext⟩, r3⟩
      | true =>
        have w3 : Wd F T (upd C Dp (.dK av)) G3 W3 H3 O3 σ3 := ⟨n3.dis, n3.oc, l3.mono n3.ext, n3.own⟩
        refine r3 (upd C Dp (.dK av)) H3 O3 σ3 w3 _ fun y W4 H4 O4 yv r4 n4 k4 => ?_
        refine r4 (upd C Dp (.dK av)) H4 O4 σ3 (w3.step n4) _ fun z W5 H5 O5 zv ⟨k', ey, hz, i5⟩ n5 k5 => ?_
        subst ey
        have k4 : yv = kV k' := k4
        subst k4
        have hO : ov O5 H5 Dp = some (.dK av) := ov_own (n5.oc Dp _ upd_same)
        have ka5 := (((ka.mono s2).mono n3.ext).mono n4.ext).mono n5.ext
        have hl2 : av.length = acc.length := by
          have := congrArg List.length ka1
          rwa [List.length_map, List.length_map] at this
        refine ⟨av, k', rfl, hO, by rw [hl2]; exact hz, ?_⟩
        obtain ⟨n6, e6⟩ := Nx.rehide (o' := .dK (putK av k' zv)) ((n03.trans n4).trans n5) cp
        exact ⟨putG acc k' z, putK av k' zv, W5, H5, _, e6, n6, ⟨(putG_V av k' zv) ▸ putG_keys (z := zv) (y := z) ka1, putG_nodup ka2, (putG_V av k' zv) ▸ putG_den k5 ka1 ka5⟩, i5⟩
    · have e : i = ds.length := by omega
      subst e
      refine .inl ⟨k.2 rfl, ?_⟩
      obtain ⟨n6, np⟩ := n.show (od := .dp acc) cp ⟨av, rfl, ka1, ka2, ka⟩
      exact q (.adr Dp) _ H' O' _ (fin acc W' ii Dp np) (Nx.trans ⟨n1.ext, n1.dis, n1.oc, n1.own⟩ n6) rfl
end
end N
set_option Elab.async false
set_option linter.all false
set_option maxRecDepth 100000
set_option maxHeartbeats 1000000
namespace N
open PySem PySem.Spec PyProof.Rows L2
structure Er0 (K : PySem.W.Frag) (mg : Str → Option Value) (x : Str) (C : Addr) : Prop where
  g : mg x = some (.ref C)
  e : PySem.W.excIn K C [.type "Exception", .type "BaseException", .type "object"] "Exception.__new__" = true
  k : PySem.W.keepIn K (.ref C) = true
  s : PySem.W.subIn K (.ref C) (.type "BaseException") = some true
  t : PySem.W.typeIn K (.ref C) = some (.type "type")
theorem pmk_er0 {X : Cx} {C : Addr} {x : Str} {p pos : Pos} (E : Er0 X.K X.mg x C) (hg : Gl X x) (hdb : (x == ("__debug__" : Str)) = false := by decide) :
    PMk X (.Call (.Name x p) [] [] pos) (fun _ H Q => Q (.ref C) none H) := by
  intro pins s σ H Q I h
  refine wpAny_Call_Name_kw (ld_glob I hg E.g ?_ hdb)
  refine PySem.W.callWith_K0 I.kIn E.k ?_
  obtain ⟨bm, N, nm, qn, bs, hdct, sn, sub, ab, col, dd, k0, k1, k2, k3, k5, mN, hC, hN, hni, T⟩ := exc_obj I.kIn E.e
  refine wpAny_call_exc_subT F.excBase_Exception T hC hN hni (fun h' e hm => ?_) (Nat.zero_le _)
  exact mk_of I hm (raises_own E.s E.t) h (I.hok.gone hm.new)
abbrev Cly := Value × (Addr → Value → Option Addr → TS)
def wCly (K : PySem.W.Frag) (Wo : WX) (l : List Cly) : Ends → WX := fun D => wMany K Wo D l
theorem ps_try_manyF {X : Cx} {body : List Stmt} {h₀ : ExceptHandler} {hds : List ExceptHandler} {l : List Cly} {pos : Pos} {tb : WX → TS} {Wo : WX} (hs : X.stack = X.env :: X.outer) (hf : X.env.frame = some X.env.locals) (tk : Takes X Wo)
    (hb : ∀ (W : WX) (pn : List (Addr × Obj)) (xe : Value → Shared → Prop), Takes (X.tr pn xe) W → PassesOwn (model X.prog X.w) X.A X.env xe → PSs (X.tr pn xe) body (tb W))
    (hh : HdsOk X (h₀ :: hds) l) : PS X (.Try body (h₀ :: hds) [] [] pos) (fun D σ H => tb (wCly X.K Wo l D) D σ H) := ps_try_many hs hf tk hb hh
section
variable {F : FmKit} {T : Kx} {G : Gm} {W : Om} {E : En} {ex : EX} {W0 : WX}
def ClyOk (F : FmKit) (T : Kx) (E : En) (sx : Addr → Value → Option Addr → TS) (c : Nat) (d : Addr) (G : Gm) (W : Om) : Prop := ∀ a, Sw F T (sx a (.ref (T.cl c)) (dq c d)) G W E
theorem swx_many2 {tb : (Ends → WX) → TS} {s1 s2 : Addr → Value → Option Addr → TS} {c1 c2 : Nat} {ex1 : EX} (hp : ∀ w B, tb w B = tb (fun _ => w B) B) (hb : ∀ W1, SwX F T W1 (tb fun _ => W1) G W E ex1)
    (hs : ∀ c d G' W', ex1 c d G' W' → ∃ t, PySem.W.exmOne T.K (.ref (T.cl c)) (.ref (T.cl c1)) = some t ∧ (t = true → ClyOk F T E s1 c d G' W') ∧
      (t = false → ∃ t, PySem.W.exmOne T.K (.ref (T.cl c)) (.ref (T.cl c2)) = some t ∧ (t = true → ClyOk F T E s2 c d G' W') ∧ (t = false → ex c d G' W'))) :
    ∀ wx, wCly T.K W0 [(.ref (T.cl c1), s1), (.ref (T.cl c2), s2)] = wx → SwX F T W0 (tb wx) G W E ex := by
  rintro _ rfl
  intro C H O σ w xo B b
  rw [hp]
  have run : ∀ {sx : Addr → Value → Option Addr → TS} {c : Nat} {d : Addr} {G' : Gm} {W' : Om} {H' O' : Hp} {σ' : L2.St}, ClyOk F T E sx c d G' W' → Nx F T C W' H H' O' → Lo F T H' G' σ' → ∀ a, sx a (.ref (T.cl c)) (dq c d) B σ' (ov O' H') := fun h n l a =>
    h a C _ _ _ ⟨n.dis, n.oc, l, n.own⟩ _ (b.up n.ext)
  refine hb _ C H O σ w (fun c d G' W' H' O' σ' e n l => ?_) B b
  obtain ⟨t, h1, h2, h3⟩ := hs c d G' W' e
  refine ⟨t, h1, fun q a ha => run (h2 q) n l a, fun q => ?_⟩
  obtain ⟨t, h4, h5, h6⟩ := h3 q
  exact ⟨t, h4, fun q a ha => run (h5 q) n l a, fun q => xo c d G' W' H' O' σ' (h6 q) n l⟩
end
end N
set_option Elab.async false
set_option linter.all false
set_option maxRecDepth 100000
set_option maxHeartbeats 1000000
namespace N
open PySem PySem.Spec PyProof.Rows L2
def S_eqF : FS := fun ds W post => ∃ f g : Fm, ds = [.fm f, .fm g] ∧ W = [] ∧ post (.bl (decide (f.spell = g.spell))) []
end N
set_option Elab.async false
set_option linter.all false
set_option maxRecDepth 100000
set_option maxHeartbeats 1000000
namespace N
open PySem PySem.Spec PyProof.Rows L2
def rListDk : List V → Hp → VK → Prop := fun xs H Q => ∃ (a : Addr) (kvs : List (Key × V)), xs = [.ref a] ∧ Rd H a (.dK kvs) ∧ ∀ p, H p = none → Q (.ref p) (upd H p (.lst (kvs.map fun kv => kV kv.1)))
theorem cr_listDk {X : Cx} (hcalm : X.calm = true) : CallR X (.type "list") rListDk := call_listD hcalm
section
variable {F : FmKit} {T : Kx} {W : Om} {R : D → Om → Prop} {d : D}
theorem ca_listDk {ps : List (Key × D)} (hv : Vd W d ps) (r : R (.lst (ps.map fun p => kD p.1)) W) : Ca F T rListDk [d] W R := ca_one fun C H O di oc ow x k Q q => by
  obtain ⟨a, kvs, e, h1, h2, h3, h4⟩ := hv.at di ow k
  refine ⟨a, kvs, by rw [e], .inl h1, fun p hn => ?_⟩
  obtain ⟨n2, e2, s2⟩ := (Nx.refl (F := F) (T := T) di oc ow).newF (o := .lst (kvs.map fun kv => kV kv.1)) hn
  rw [e2]
  refine q _ W _ O _ r n2 ⟨p, _, rfl, upd_same, ?_⟩
  have := DenL.vls (F := F) (T := T) (H := upd H p (.lst (kvs.map fun kv => kV kv.1))) (kvs.map fun kv => kV kv.1)
  have e3 : (kvs.map fun kv => kV kv.1).map D.vl = ps.map fun p => kD p.1 := by
    have h5 := congrArg (List.map kD) h2
    rw [List.map_map, List.map_map] at h5
    rw [List.map_map]
    exact h5
  rwa [e3] at this
end
theorem sg_sumR : ∀ l : List Nat, ((l.map sg).map (·.length)).sum = l.length
  | [] => rfl
  | c :: l => by
    rw [List.map_cons, List.map_cons, List.sum_cons, sg_sumR l, List.length_cons]
    show 1 + l.length = _
    omega
theorem rep_anyR (n : Nat) : (List.replicate n false).any id = false := by
  rw [List.any_eq_false]
  intro x hx
  rw [List.eq_of_mem_replicate hx]
  simp
def S_getRu : FS := fun ds W post => ∃ (rs : List (Nat × Fm)) (x : Nat × Fm), ds = [rlD rs, .str (sg x.1)] ∧ W = [] ∧ rlOk rs ∧ x ∈ rs ∧ post (.fm x.2) []
/-- a field of rules -/
theorem ev_weakZ {F : FmKit} {T : Kx} {G : Gm} {W : Om} {R : D → Om → Prop} {te : TE} (h : Ev F T te G W fun d W' => R d W' ∨ ∃ l, d = .tupz l ∧ R (.tup l) W') : Ev F T te G W R := fun C H O σ w Q q =>
  h C H O σ w _ fun d W1 H1 O1 v hh n k => by
    rcases hh with r | ⟨l, rfl, r⟩
    · exact q d W1 H1 O1 v r n k
    · exact q (.tup l) W1 H1 O1 v r n (Den.weak k)
theorem ev_flR {F : FmKit} {T : Kx} {G : Gm} {W : Om} {R : D → Om → Prop} {ta : TE} {n : Str} (z : CZ T.K (T.cl 3) rlNames)
    (h : Ev F T ta G W fun d W1 => ∃ rs, d = rlD rs ∧ ((n = "rows" ∧ R (rowsR rs) W1) ∨ (n = "forms_by_mark" ∧ R (.dct ((rlPs rs).map (·.1)) ((rlPs rs).map (·.2))) W1))) : Ev F T (tFld T.K ta n) G W R :=
  ev_weakZ (ev_fld (h.imp fun d W1 hh => by
    obtain ⟨rs, rfl, h⟩ := hh
    rcases h with ⟨rfl, r⟩ | ⟨rfl, r⟩
    · exact ⟨3, rlNames, _, _, .obj _ _ _, z.cls, z.nos _ (by decide +kernel), rfl, .inr ⟨_, rfl, r⟩⟩
    · exact ⟨3, rlNames, _, _, .obj _ _ _, z.cls, z.nos _ (by decide +kernel), rfl, .inl r⟩))
/-- the rows, as the tuple that they are -/
theorem ev_flZ {F : FmKit} {T : Kx} {G : Gm} {W : Om} {R : D → Om → Prop} {ta : TE} (z : CZ T.K (T.cl 3) rlNames) (h : Ev F T ta G W fun d W1 => ∃ rs, d = rlD rs ∧ R (rowsZ rs) W1) : Ev F T (tFld T.K ta "rows") G W R :=
  ev_fld (h.imp fun d W1 ⟨rs, e, r⟩ => by
    subst e
    exact ⟨3, rlNames, _, _, .obj _ _ _, z.cls, z.nos _ (by decide +kernel), rfl, r⟩)
end N
set_option Elab.async false
set_option linter.all false
set_option maxRecDepth 100000
set_option maxHeartbeats 1000000
namespace XU
open PySem
open Sem (wp)
section
variable {prog : Program} {w : World} {K : Type} [DecidableEq K] {knd : KeyKind prog w K} {A : Around} {E : Value → Shared → Prop} {s : Shared}
theorem put_pairs {d : Addr} {kvs : List (K × Value)} {k : K} {key v : Value} {Q : Unit → Shared → Prop} (hk : knd.is k key = true) (hm : s.heap.DictOf knd d kvs)
    (hq : ∀ h', h'.DictOf knd d (stored kvs k v) → Heap.SameBut d s.heap h' → Q () { s with heap := h' }) (hz : kvs.length ≤ sizeLine) : wpAny (model prog w) A (dictPut d (knd.hash k) key v) Q E s := by
  obtain ⟨o, es, ep, ho, hc, hd, hks, hp, hn⟩ := hm
  have e1 : es.toList.length = kvs.length := by have := hp.length; omega
  have ez : es.size ≤ sizeLine := by have e2 : es.toList.length = es.size := by simp
                                     omega
  unfold dictPut
  refine wpAny_bind (wpAny_dictFind_of hk ho hd hks ?_)
  have ix : (es.findIdx? fun e => knd.is k e.key) = kvs.findIdx? fun kv => decide (kv.1 = k) := by
    rw [← hp.findIdx k]
    obtain ⟨l⟩ := es
    simp
  cases hi : es.findIdx? fun e => knd.is k e.key with
  | some i =>
    refine wpAny_updateDict ho hd (hq _ ⟨_, _, ep, Heap.get?_update_self _ ho (Obj.isFreed_of_dict (Obj.data_mapDict hd _)), hc.mapDict _, Obj.data_mapDict hd _, hks.modify _ _, ?_, ?_⟩ (Heap.SameBut.update ..))
    · rw [stored, if_pos (any_of_findIdx_some (ix ▸ hi))]
      have hl : (es.toList.findIdx? fun e => knd.is k e.key) = some i := hi ▸ (by obtain ⟨l⟩ := es; simp)
      have z := hp.modify hn hl v
      obtain ⟨l⟩ := es
      simpa using z
    · rw [stored, if_pos (any_of_findIdx_some (ix ▸ hi)), keys_map_store]
      exact hn
  | none =>
    have no : k ∉ kvs.map (·.1) := not_mem_of_findIdx_none (ix ▸ hi)
    have na : ¬ (kvs.any fun kv => decide (kv.1 = k)) = true := fun h => by
      obtain ⟨kv, h1, h2⟩ := List.any_eq_true.mp h
      exact no (List.mem_map.mpr ⟨kv, h1, of_decide_eq_true h2⟩)
    refine wpAny_updateDictKeys (hz := ez) ho hd (hq _ ⟨_, _, ep + 1, Heap.get?_update_self _ ho (Obj.isFreed_of_dict (Obj.data_mapDictKeys hd _)), hc.mapDictKeys _, Obj.data_mapDictKeys hd _, hks.push hk _, ?_, ?_⟩ (Heap.SameBut.update ..))
    · rw [stored, if_neg na]
      have z := hp.append hk (knd.hash k) v
      obtain ⟨l⟩ := es
      simpa using z
    · rw [stored, if_neg na, List.map_append, List.nodup_append]
      refine ⟨hn, by simp, fun a ha b hb e => ?_⟩
      simp only [List.map_cons, List.map_nil, List.mem_singleton] at hb
      subst hb
      exact no (e ▸ ha)
theorem merge_map {d o : Addr} {kvs more : List (K × Value)} {Q : Unit → Shared → Prop} (nr : ∀ k a, knd.is k (.ref a) = false) (ne : d ≠ o) (hs : (o == sysModules) = false) (hd : s.heap.DictOf knd d kvs) (ho : s.heap.DictOf knd o more)
    (hq : ∀ h', h'.DictOf knd d (merged kvs more) → h'.DictOf knd o more → Heap.SameBut d s.heap h' → Q () { s with heap := h' }) (hz : kvs.length + more.length ≤ sizeLine) : wpAny (model prog w) A (mergeMapping d (.ref o) false) Q E s := by
  obtain ⟨od, e1, p1, god, cod, dod, kod, pod, nod⟩ := id hd
  obtain ⟨oo, e2, p2, goo, coo, doo, koo, poo, noo⟩ := id ho
  have hlen : more.length = e2.size := by rw [← poo.length]; simp
  unfold mergeMapping
  refine wpAny_bind (wpAny_isInstance ho.typeIs isSubtype_dict_dict ?_)
  simp only [if_true]
  refine wpAny_bind (wpAny_specialOf ho.typeIs F.slot_dict_iter.lookup ?_)
  simp only [beq_self_eq_true, pure_bind]
  rw [if_neg (by rw [hs]; exact Bool.false_ne_true)]
  refine wpAny_bind (wpAny_dictEntries god dod ?_)
  have key_no : ∀ e ∈ e2.toList, ∀ a, e.key ≠ .ref a := fun e he a h => by
    obtain ⟨k, hk, _⟩ := koo e (Array.mem_toList_iff.mp he)
    rw [h, nr] at hk
    cases hk
  refine wpAny_ite_split (fun _ => ?ea) (fun _ => ?eb)
  case' ea =>
    refine wpAny_bind (wpAny_dictEntries goo doo (wpAny_bind ?_))
    rw [← Array.forIn_toList]
    refine wpAny_forIn_list _ (fun rest _ t => t = s ∧ ∀ e ∈ rest, ∀ a, e.key ≠ .ref a) _ ?_ ?_ _ _ ⟨rfl, key_no⟩
    · rintro e rest b t ⟨rfl, all⟩
      have h1 := all e List.mem_cons_self
      split
      · rename_i a h
        exact absurd h (h1 a)
      · exact wpAny_pure ⟨rfl, fun x hx => all x (List.mem_cons_of_mem _ hx)⟩
    rintro b t ⟨et, _⟩
    rw [et]
  all_goals
    refine wpAny_bind (wpAny_dictEntries goo doo ?_)
    refine wpAny_bind (wpAny_dictEpoch goo doo ?_)
    refine wpAny_bind ?_
    refine wpAny_forIn_list _ (fun rest _ t => ∃ h' i, t = { s with heap := h' } ∧ rest = (List.range e2.size).drop i ∧ i ≤ e2.size ∧ h'.DictOf knd d (merged kvs (more.take i)) ∧ h'.get? o = some oo ∧ Heap.SameBut d s.heap h') _ ?_ ?_ _ _ ⟨s.heap, 0, rfl, rfl, Nat.zero_le _, by simpa [merged] using hd, goo, Heap.SameBut.refl _ _⟩
    · rintro x rest b t ⟨h', i, rfl, hr, hi, hd', go', hs'⟩
      have lt : i < e2.size := by
        rcases Nat.lt_or_ge i e2.size with h | h
        · exact h
        · rw [List.drop_of_length_le (by simpa using h)] at hr
          cases hr
      rw [List.drop_eq_getElem_cons (by simpa using lt), List.getElem_range] at hr
      obtain ⟨rfl, hrest⟩ := List.cons.inj hr
      refine wpAny_bind (wpAny_dictEntries go' doo ?_)
      rw [Array.getElem?_eq_getElem lt]
      obtain ⟨⟨k, v⟩, hkv⟩ : ∃ kv, more[x]? = some kv := ⟨more[x]'(by rw [hlen]; exact lt), List.getElem?_eq_getElem _⟩
      obtain ⟨hkey, hval⟩ := poo.get? (e := e2[x]) (by simp [lt]) hkv
      obtain ⟨k', hkey', hhash⟩ := koo e2[x] (Array.getElem_mem lt)
      obtain rfl : k' = k := knd.inj _ _ _ hkey' hkey
      have hmx : (merged kvs (more.take x)).length ≤ sizeLine := by
        have z1 := merged_length_le kvs (more.take x)
        have z2 : (more.take x).length ≤ more.length := by rw [List.length_take]; omega
        omega
      dsimp only
      rw [if_neg (by decide), hhash, hval]
      refine wpAny_bind (wpAny_holding (put_pairs hkey hd' (fun h2 hd2 hs2 => ?_) hmx))
      have go2 : h2.get? o = some oo := (hs2.2 o (Ne.symm ne)).trans go'
      refine wpAny_bind (wpAny_dictEpoch go2 doo ?_)
      rw [if_neg (by simp)]
      exact wpAny_pure ⟨h2, x + 1, rfl, hrest, lt, by rw [merged_take_succ kvs more x (k', v) hkv]; exact hd2, go2, hs'.trans hs2⟩
    · rintro b t ⟨h', i, rfl, hr, hi, hd', go', hs'⟩
      have ei : i = e2.size := by
        rcases Nat.lt_or_ge i e2.size with h | h
        · rw [List.drop_eq_getElem_cons (by simpa using h)] at hr
          cases hr
        · omega
      refine wpAny_pure (hq h' ?_ ⟨oo, e2, p2, go', coo, doo, koo, poo, noo⟩ hs')
      rw [ei, ← hlen, List.take_length] at hd'
      exact hd'
theorem disp_star {env : Env} {a k v : Expr} {pos : Pos} {Q : Value → Shared → Prop} (nr : ∀ k a, knd.is k (.ref a) = false)
    (h : wpAny (model prog w) A (eval a env) (fun m s2 => ∃ o more, m = .ref o ∧ s.heap.objs.size ≠ o ∧ (o == sysModules) = false ∧ s2.heap.DictOf knd s.heap.objs.size [] ∧ s2.heap.DictOf knd o more ∧ more.length < sizeLine ∧
      ∀ h3, h3.DictOf knd s.heap.objs.size (merged [] more) → Heap.SameBut s.heap.objs.size s2.heap h3 →
        wpAny (model prog w) A (eval k env) (fun y s4 => wpAny (model prog w) A (eval v env) (fun z s5 => ∃ kk, knd.is kk y = true ∧ s5.heap.DictOf knd h3.objs.size [] ∧ s.heap.objs.size ≠ h3.objs.size ∧ (h3.objs.size == sysModules) = false ∧
          ∀ h6, h6.DictOf knd h3.objs.size [(kk, z)] → Heap.SameBut h3.objs.size s5.heap h6 → ∃ cur, h6.DictOf knd s.heap.objs.size cur ∧ cur.length + 1 ≤ sizeLine ∧
            ∀ h7, h7.DictOf knd s.heap.objs.size (stored cur kk z) → Heap.SameBut s.heap.objs.size h6 h7 → Q (.ref s.heap.objs.size) { s5 with heap := h7, toks := s5.toks + 1 }) E s4) E { s2 with heap := h3.push { cls := .type "dict", data := .dict #[] } }) E
      { s with heap := s.heap.push { cls := .type "dict", data := .dict #[] } }) : wpAny (model prog w) A (eval (.Dict [none, some k] [a, v] pos) env) Q E s := by
  rw [arm_eval_Dict]
  refine wpAny_bind (wpAny_standAt ?_)
  have e : (evalEachOpt [none, some k] env).zip ((evalEach [a, v] env).map fun v => do let x ← v; standAt pos; pure x) = [(none, do let x ← eval a env; standAt pos; pure x), (some (eval k env), do let x ← eval v env; standAt pos; pure x)] := by rfl
  rw [e]
  unfold dictDisplay
  simp only [List.forIn_cons, List.forIn_nil, List.isEmpty_nil, if_true, pure_bind, bind_assoc, List.nil_append, List.length_cons, List.length_nil, List.isEmpty_cons, Nat.reduceAdd, Nat.reduceBEq, Bool.false_eq_true, if_false]
  refine wpAny_bind (wpAny_alloc ?_)
  refine wpAny_bind (wpAny_holding (wpAny_bind (wpAny_mono h (fun m s2 z => ?_) fun _ _ e => e)))
  obtain ⟨o, more, rfl, ne, hs, d1, d2, hl, h⟩ := z
  refine wpAny_bind (wpAny_standAt (wpAny_pure ?_))
  refine wpAny_bind (wpAny_onRaise (wpAny_tryCatch (wpAny_onRaise (wpAny_holding (merge_map nr ne hs d1 d2 (fun h3 z1 z2 z3 => ?_) (by simpa using Nat.le_of_lt hl))))))
  have h := h h3 z1 z3
  refine wpAny_bind (wpAny_holding (wpAny_subDict (knd := knd) (Nat.le_of_ble_eq_true rfl) ?_))
  refine evalPairs_cons (wpAny_mono h (fun y s4 h4 => wpAny_bind (wpAny_mono h4 (fun z s5 h5 => ?_) fun _ _ e => e)) fun _ _ e => e)
  refine wpAny_bind (wpAny_standAt (wpAny_pure (evalPairs_nil ?_)))
  obtain ⟨kk, g1, g2, g3, g4, g5⟩ := h5
  refine ⟨[(kk, z)], ⟨g1, rfl, trivial⟩, g2, fun h6 z6 z7 => ?_⟩
  obtain ⟨cur, g6, hm, g7⟩ := g5 h6 z6 z7
  refine wpAny_bind (wpAny_onRaise (wpAny_holding (merge_map nr g3 g4 g6 z6 (fun h7 y1 y2 y3 => ?_) hm)))
  exact wpAny_pure (g7 h7 y1 y3)
end
end XU
namespace N
open PySem PySem.Spec PyProof.Rows L2
/-- {**a, k: v} -/
def tDispS (ta tk tv : TE) : TE := fun σ H Q => ∀ p, H p = none → ta σ (upd H p (.dK [])) fun x H2 => ∃ o more, x = .ref o ∧ o ≠ p ∧ H2 p = some (.dK []) ∧ Rd H2 o (.dK more) ∧ more.length + 1 ≤ sizeLine ∧
  ∀ q, upd H2 p (.dK (mergeK [] more)) q = none → tk σ (upd (upd H2 p (.dK (mergeK [] more))) q (.dK [])) fun y H3 => tv σ H3 fun z H4 => ∃ k cur, y = kV k ∧ H4 q = some (.dK []) ∧ H4 p = some (.dK cur) ∧ cur.length + 1 ≤ sizeLine ∧
    Q (.ref p) (upd (upd H4 q (.dK [(k, z)])) p (.dK (putK cur k z)))
theorem pe_dispS {X : Cx} {pos : Pos} {a k v : Expr} {ta tk tv : TE} (ha : PE X a ta) (hk : PE X k tk) (hv : PE X v tv) : PE X (.Dict [none, some k] [a, v] pos) (tDispS ta tk tv) := by
  refine ⟨fun pins s σ H Q I q => ?_⟩
  have hn := I.hok.fresh (Nat.le_refl s.heap.objs.size)
  have I1 := I.laid (a := s.heap.objs.size) (o := .dK []) (h' := s.heap.push { cls := .type "dict", data := .dict #[] }) (t' := s.toks) (fun _ _ z => Heap.get?_push_of_some _ z) (Nat.le_refl _) (dk_empty s.heap I.big)
  refine XU.disp_star (knd := mixKind X.prog X.w) (fun k a => by cases k <;> rfl) (thn (ha.run pins _ σ _ _ I1 (q _ hn)) fun m s2 ⟨x, H2, I2, rx, o, more, ex, ne, e2, eo, hl, q2⟩ => ?_)
  subst ex
  obtain rfl : m = Value.ref o := rx
  obtain ⟨_, hd1, vs1, r1, dd1⟩ := dk_of I2.hok e2
  cases r1
  obtain ⟨_, hd2, vs2, r2, dd2⟩ := dk_rd I2.hok eo
  refine ⟨o, vs2, rfl, fun e => ne e.symm, hd2, dd1, dd2, by rw [← r2.length]; omega, fun h3 d3 hs3 => ?_⟩
  have hz : (mergeK [] more).length ≤ sizeLine := by
    have := length_mergeK more []
    rw [List.length_nil] at this
    omega
  have I3 := d_write (t' := s2.toks) (ob := .dK (mergeK [] more)) I2 (by rw [e2]; exact True.intro) hs3 (let ⟨q, _, _, hq, _⟩ := d3; ⟨q, hq⟩) (dk_new hz hd1 (r2.merge .nil) d3)
  have hq := I3.hok.fresh (Nat.le_refl h3.objs.size)
  have I4 := I3.laid (a := h3.objs.size) (o := .dK []) (h' := h3.push { cls := .type "dict", data := .dict #[] }) (t' := s2.toks) (fun _ _ z => Heap.get?_push_of_some _ z) (Nat.le_refl _) (dk_empty h3 I3.big)
  refine thn (hk.run pins _ σ _ _ I4 (q2 _ hq)) fun y s4 ⟨y', H5, I5, ry, q5⟩ => thn (hv.run pins _ σ _ _ I5 q5) fun z s6 ⟨z', H6, I6, rz, kk, cur, ey, eq, ep, hc, q6⟩ => ?_
  subst ey
  obtain ⟨_, hdq, vsq, rq, ddq⟩ := dk_of I6.hok eq
  cases rq
  have npq : s.heap.objs.size ≠ h3.objs.size := fun e => by
    rw [← e, upd_same] at hq
    cases hq
  refine ⟨kk, kV_is ry, ddq, npq, hdq, fun h7 d7 hs7 => ?_⟩
  have I7 := d_write (t' := s6.toks + 1) (ob := .dK [(kk, z')]) I6 (by rw [eq]; exact True.intro) hs7 (let ⟨q, _, _, hq, _⟩ := d7; ⟨q, hq⟩) (dk_new (by rw [sizeLine_eq]; exact Nat.le_of_ble_eq_true rfl) hdq (show KV [(kk, z')] [(kk, z)] from .cons ⟨rfl, rz⟩ .nil) d7)
  have ep7 : upd H6 h3.objs.size (.dK [(kk, z')]) s.heap.objs.size = some (.dK cur) := by rw [upd_ne npq]; exact ep
  obtain ⟨_, hdp, vsp, rp, ddp⟩ := dk_of I7.hok ep7
  refine ⟨vsp, ddp, by rw [← rp.length]; exact hc, fun h8 d8 hs8 => ?_⟩
  have hz8 : (putK cur kk z').length ≤ sizeLine := by
    have := length_putK cur kk z'
    omega
  have I8 := d_write (t' := s6.toks + 1) (ob := .dK (putK cur kk z')) I7 (by rw [ep7]; exact True.intro) hs8 (let ⟨q, _, _, hq, _⟩ := d8; ⟨q, hq⟩) (dk_new hz8 hdp (rp.put kk rz) d8)
  exact ⟨.ref s.heap.objs.size, _, I8, rfl, q6⟩
section
variable {F : FmKit} {T : Kx} {C H H' O O' : Hp} {G : Gm} {W W' : Om} {R : D → Om → Prop} {ta tk tv : TE}
theorem Nx.unhide {q : Addr} {o : HO} (n : Nx F T (upd C q o) W H H' O') (cq : C q = none) : Nx F T C W H H' O' :=
  ⟨n.ext, n.dis, fun b x e => n.oc b x (by rw [upd_ne (ne_of_none e cq)]; exact e), ⟨n.own.nd, fun b ob m => ⟨by
    have z := (n.own.at_ b ob m).1
    by_cases e : b = q
    · rw [e]
      exact cq
    · rwa [upd_ne e] at z, (n.own.at_ b ob m).2⟩⟩⟩
theorem ev_dispS (h : Ev F T ta G W fun d W1 => ∃ ps : List (Key × D), d = .dp ps ∧ ps.length + 1 ≤ sizeLine ∧ Ev F T tk G W1 fun y W2 => Ev F T tv G W2 fun z W3 => ∃ k, y = kD k ∧ ∀ p, p ∉ akeys W3 → R (.adr p) ((p, .dp (putG (mergeG ps) k z)) :: W3)) :
    Ev F T (tDispS ta tk tv) G W R := fun C H O σ w Q q p hp => by
  obtain ⟨n0, e0, cp⟩ := w.nx.hide (o := .dK []) hp
  rw [e0]
  refine h (upd C p (.dK [])) H (upd O p (.dK [])) σ ⟨n0.dis, n0.oc, w.loc, n0.own⟩ _ fun d W1 H1 O1 x ⟨ps, ed, hl, h1⟩ n1 k1 => ?_
  subst ed
  obtain ⟨o, kvs, ex, ho, e1, nd, dl⟩ := k1
  have hO : O1 p = some (.dK []) := n1.oc p _ upd_same
  have op : o ≠ p := fun e => by
    rw [e, n1.dis p _ hO] at ho
    cases ho
  have hlen : kvs.length = ps.length := by
    have := congrArg List.length e1
    rwa [List.length_map, List.length_map] at this
  refine ⟨o, kvs, ex, op, ov_own hO, .inl (n1.dis.same _ _ ho), by omega, fun b hb => ?_⟩
  obtain ⟨m1, m2, m3⟩ := mergeK_keys (F := F) (T := T) (H := H1) (acc := []) (av := []) e1 rfl List.nodup_nil dl (show DenL F T H1 (([] : List (Key × D)).map (·.2)) (([] : List (Key × V)).map (·.2)) from rfl)
  obtain ⟨n2, e2⟩ := Nx.rehide (o' := .dK (mergeK [] kvs)) n1 cp
  rw [e2] at hb ⊢
  obtain ⟨n3, e3, cb⟩ := n2.hide (o := .dK []) hb
  rw [e3]
  have w3 : Wd F T (upd (upd C p (.dK (mergeK [] kvs))) b (.dK [])) G W1 H1 (upd (upd O1 p (.dK (mergeK [] kvs))) b (.dK [])) σ := ⟨n3.dis, n3.oc, w.loc.mono n1.ext, n3.own⟩
  refine h1 _ H1 _ σ w3 _ fun y W2 H2 O2 yv h2 n4 k4 => h2 _ H2 O2 σ (w3.step n4) _ fun z W3 H3 O3 zv ⟨k, ek, r⟩ n5 k5 => ?_
  subst ek
  have bp : b ≠ p := fun e => by
    rw [e, upd_same] at cb
    cases cb
  have hb3 : O3 b = some (.dK []) := n5.oc b _ upd_same
  have hp3 : O3 p = some (.dK (mergeK [] kvs)) := n5.oc p _ (by rw [upd_ne (Ne.symm bp)]; exact upd_same)
  have hml := length_mergeK kvs []
  rw [List.length_nil] at hml
  refine ⟨k, mergeK [] kvs, k4, ov_own hb3, ov_own hp3, by omega, ?_⟩
  obtain ⟨n6, e6⟩ := Nx.rehide (C := upd C p (.dK (mergeK [] kvs))) (o' := .dK [(k, zv)]) n5 cb
  rw [e6]
  have comm : upd (upd C p (.dK (mergeK [] kvs))) b (.dK [(k, zv)]) = upd (upd C b (.dK [(k, zv)])) p (.dK (mergeK [] kvs)) := by
    funext c
    by_cases c1 : c = b
    · subst c1
      rw [upd_same, upd_ne bp, upd_same]
    · rw [upd_ne c1]
      by_cases c2 : c = p
      · subst c2
        rw [upd_same, upd_same]
      · rw [upd_ne c2, upd_ne c2, upd_ne c1]
  rw [comm] at n6
  have cp2 : upd C b (.dK [(k, zv)]) p = none := by rw [upd_ne (Ne.symm bp)]; exact cp
  have cb2 : C b = none := by rwa [upd_ne bp] at cb
  obtain ⟨n7, e7⟩ := Nx.rehide (C := upd C b (.dK [(k, zv)])) (o' := .dK (putK (mergeK [] kvs) k zv)) n6 cp2
  rw [e7]
  obtain ⟨g1, g2, g3⟩ := mergeK_keys (F := F) (T := T) (H := H3) (ps := [(k, z)]) (kvs := [(k, zv)]) (acc := mergeG ps) (av := mergeK [] kvs) rfl m1 m2 ⟨zv, [], rfl, k5, rfl⟩ (m3.mono (n4.ext.trans n5.ext))
  obtain ⟨n8, np⟩ := n7.show (od := .dp (putG (mergeG ps) k z)) cp2 ⟨putK (mergeK [] kvs) k zv, rfl, g1, g2, g3⟩
  have n9 := n8.unhide cb2
  exact q (.adr p) _ H3 _ _ (r p np) ⟨n1.ext.trans (n4.ext.trans n9.ext), n9.dis, n9.oc, n9.own⟩ rfl
end
end N
set_option Elab.async false
set_option linter.all false
set_option maxRecDepth 100000
set_option maxHeartbeats 1000000
namespace XQ
open PySem PySem.SeqAt GQ
open AutoSeq1 (wpAny_loadPart')
open MeetsSeq MeetsSeq2 MeetsSeq3 SeqRoads2
section
variable {prog : Program} {w : World} {A : Around} {R : Result → Shared → Prop}
theorem tuple_neS (p q : Addr) (xs ys : Array Value) (n n2 : Nat) (dd dd2 : Option Addr) (sl sl2 : Array (Option Value)) (hz : xs.size = ys.size) (J : Nat → Shared → Prop)
    (each : ∀ i (h1 : i < xs.size) (h2 : i < ys.size) s, J i s → wpAny (model prog w) A.in1 (eqBool xs[i] ys[i]) (fun r t => r = true ∧ J (i + 1) t) (fun e t => R (.error e) t) s)
    (last : ∀ s, J xs.size s → R (.ok (.ret (.bool false))) s) {s : Shared} (hp : s.heap.get? p = some { cls := .type "tuple", dict := dd, data := .seq xs n, slots := sl }) (hq : s.heap.get? q = some { cls := .type "tuple", dict := dd2, data := .seq ys n2, slots := sl2 }) (h : J 0 s) :
    wpAny (model prog w) A.in1 (Builtin.«tuple.__ne__» ⟨[.ref p, .ref q], []⟩) (FinOf prog w A R) (fun e t => R (.error e) t) s := by
  have f2 := AutoSeq1.sub_tuple_tuple
  have hZ : (xs.toList.zip ys.toList).length = xs.size := by simp [hz]
  have h0 := h
  obtain ⟨gp, gg, gd, gt, go⟩ := s
  wp_walk using wpAny_loadPart' hp, wpAny_loadPart' hq, wpAny_forIn_list _ (fun rest b t => b.1 = none ∧ ∃ i, rest = (xs.toList.zip ys.toList).drop i ∧ i ≤ xs.size ∧ J i t) _
  case turn =>
    rintro ⟨y, x⟩ rest b t ⟨eb, i, ez, hi, hJ⟩
    have lt : i < (xs.toList.zip ys.toList).length := by
      by_cases l : i < (xs.toList.zip ys.toList).length
      · exact l
      · rw [List.drop_of_length_le (Nat.le_of_not_lt l)] at ez
        cases ez
    have h1 : i < xs.size := hZ ▸ lt
    have h2 : i < ys.size := hz ▸ h1
    rw [List.drop_eq_getElem_cons lt] at ez
    injection ez with e1 er
    have ey : y = xs[i] := (congrArg Prod.fst e1).trans (by simp)
    have ex : x = ys[i] := (congrArg Prod.snd e1).trans (by simp)
    subst ey ex
    refine wpAny_bind (wpAny_mono (each i h1 h2 t hJ) (fun r t2 z => ?_) fun _ _ z => z)
    obtain ⟨er2, z⟩ := z
    subst er2
    wp_walk
    exact ⟨rfl, i + 1, er, h1, z⟩
  case fin =>
    rintro ⟨b1, b2⟩ t ⟨eb, i, ez, hi, hJ⟩
    simp only at eb
    subst eb
    have ge : xs.size ≤ i := by
      by_cases l : i < (xs.toList.zip ys.toList).length
      · rw [List.drop_eq_getElem_cons l] at ez
        cases ez
      · omega
    have ei : i = xs.size := by omega
    have z : R (.ok (.ret (.bool false))) t := last t (ei ▸ hJ)
    wp_walk
    simpa [Builtin.Tuple.tupleCompareSizes, hz] using z
  case h =>
    exact ⟨rfl, 0, rfl, Nat.zero_le _, h0⟩
end
section
variable {prog : Program} {w : World} {A : Around} {E : Value → Shared → Prop} {s : Shared}
theorem rc_tupN {p q : Addr} {xs ys : Array Value} {Q : Value → Shared → Prop} (hz : xs.size = ys.size) (hu : A.units < cLine) (J : Nat → Shared → Prop)
    (hp : s.heap.IsTuple p xs) (hq : s.heap.IsTuple q ys)
    (each : ∀ i (h1 : i < xs.size) (h2 : i < ys.size) s, J i s → wpAny (model prog w) A.in1 (eqBool xs[i] ys[i]) (fun r t => r = true ∧ J (i + 1) t) E s)
    (last : ∀ s, J xs.size s → Q (.bool false) s) (h : J 0 s) : wpAny (model prog w) A (richCompare .NotEq (.ref p) (.ref q)) Q E s := by
  obtain ⟨⟨c1, dd, d1, sl⟩, o1, e1, n, g1⟩ := id hp
  obtain ⟨⟨c2, dd2, d2, sl2⟩, o2, e2, n2, g2⟩ := id hq
  simp only at e1 g1 e2 g2
  subst e1 g1 e2 g2
  refine wpAny_richCompare_same_room (op := .NotEq) ⟨_, o1, rfl⟩ ⟨_, o2, rfl⟩ F.slot_tuple_ne (call_here F.slot_tuple_ne ⟨_, o1, rfl⟩ F.entry_tuple_ne (F.args_tuple_ne_2 _ _) ?_) hu
  exact tuple_neS (R := wants (fun v t => v ≠ .notImplemented ∧ Q v t) E) p q xs ys n n2 dd dd2 sl sl2 hz J each (fun t z => ⟨(fun x => nomatch x), last t z⟩) o1 o2 h
end
end XQ
namespace N
open PySem PySem.Spec PyProof.Rows L2
/-- != gives False for what D says -/
def RcN (X : Cx) (n : Nat) (D : Eqv) : Prop :=
  ∀ (A : Around) (pins : List (Addr × Obj)) (s : Shared) (σ : L2.St) (H : Hp) (x y : V) (u v : Value), Sub X n A → L2.Inv X pins σ H s → RelV x u → RelV y v → D x y H →
    wpAny (model X.prog X.w) A (richCompare .NotEq u v) (fun r t => r = .bool false ∧ ∃ H', L2.Inv X pins σ H' t ∧ Ext H H') X.xe s
section
variable {X : Cx} {n m : Nat} {D D' : Eqv}
theorem rcN_tup (hD : Mon D) (h : EqG X n D) : RcN X (n + 1) (DTup X.K D) := by
  intro A pins s σ H x y u v sb I rx ry d
  obtain ⟨a, b, xs, ys, rfl, rfl, ha, hb, p⟩ := d
  cases rx
  cases ry
  obtain ⟨its, r, e, z⟩ := I.tuple ha
  obtain ⟨its2, r2, e2, z2⟩ := I.tuple hb
  have ez : its.toArray.size = its2.toArray.size := by rw [List.size_toArray, List.size_toArray, ← r.length, ← r2.length]; exact p.1
  exact XQ.rc_tupN ez sb.room.units0 (fun _ t => LoopI X pins σ H t) e e2 (fun i h1 h2 t q => turnG hD h sb p r r2 i h1 h2 t q) (fun t q => ⟨rfl, q⟩) ⟨H, I, Ext.rfl'⟩
def rNeG (D : Eqv) : R2 := fun x y H Q => D x y H ∧ ∀ H', Ext H H' → Q (.bl false) H'
theorem op_neG (h : RcN X n D) (hr : Room n X.A) : OpR X (compareOp .NotEq) (rNeG D) := by
  intro pins s σ H x y v u Q I rx ry hq
  obtain ⟨d, q⟩ := hq
  show wpAny (model X.prog X.w) X.A (richCompare .NotEq v u) (EP X pins σ Q) X.xe s
  refine wpAny_mono (h X.A pins s σ H x y v u ⟨hr, rfl⟩ I rx ry d) (fun r t z => ?_) fun _ _ z => z
  obtain ⟨er, H', I', e⟩ := z
  subst er
  exact ⟨.bl false, H', I', rfl, q H' e⟩
/-- the two are objects of one formula -/
def RFm (F : FmKit) (T : Kx) (a b : Addr) (H : Hp) : Prop := ∃ f : Fm, FormAt F T H a f ∧ FormAt F T H b f
def DFm (F : FmKit) (T : Kx) : Eqv := DIns (T.cl 0) (RFm F T)
theorem mon_fm {F : FmKit} {T : Kx} : Mon (DFm F T) := mon_ins fun a b H H' e ⟨f, h1, h2⟩ => ⟨f, h1.mono e, h2.mono e⟩
theorem sp_eqfm {T : Kx} {vs : List V} {H : Hp} {Q : VK} {E : XK} (h : spEq (RFm FK T) vs H Q E) : spN FK T S_eqF vs H Q E := by
  obtain ⟨a, b, rfl, ⟨f, h1, h2⟩, q⟩ := h
  refine ⟨[.fm f, .fm f], [], fun _ => none, H, fun _ => none, fun d W => d = .bl true ∧ W = [], (by funext x; rfl), (fun b o e => by cases e), (fun _ _ e => by cases e), ⟨List.nodup_nil, fun a od h => by cases h⟩, ⟨_, _, rfl, ⟨a, rfl, h1⟩, _, _, rfl, ⟨b, rfl, h2⟩, rfl⟩, ⟨f, f, rfl, rfl, ?_, rfl⟩, ?_⟩
  · rw [decide_eq_true rfl]
  · rintro d W' H' O' v ⟨rfl, rfl⟩ n k
    obtain rfl : v = .bl true := k
    exact q _ (fun x o e => n.dis.same _ _ (n.ext _ _ e))
theorem eqG_fm {k : Nat} {T : Kx} (o : Opn X.prog X.w X.K X.mg X.base k (T.cl 0) "__eq__" (spN FK T S_eqF)) : EqG X k (DFm FK T) := by
  obtain ⟨f, fd, ps, o2, F, b⟩ := o.ex
  exact eqG_ins (F.imp fun vs H Q E h => sp_eqfm h) o2.at_ o2.fn b pass0
/-- equal, of nesting at most m -/
def DA (K : PySem.W.Frag) (T : Kx) : Nat → Eqv
  | 0 => fun x y H => DFlat x y H ∨ DFm FK T x y H
  | m + 1 => fun x y H => (DA K T m x y H ∨ DTup K (DA K T m) x y H) ∨ DList (DA K T m) x y H
theorem mon_A {K : PySem.W.Frag} {T : Kx} : ∀ m, Mon (DA K T m)
  | 0 => mon_flat.or mon_fm
  | m + 1 => ((mon_A m).or (mon_tup (mon_A m))).or (mon_list (mon_A m))
theorem eqG_A {k : Nat} {T : Kx} (o : Opn X.prog X.w X.K X.mg X.base k (T.cl 0) "__eq__" (spN FK T S_eqF)) : ∀ m, EqG X (k + m) (DA X.K T m)
  | 0 => (eqG_flat.mono (Nat.zero_le _)).or (eqG_fm o)
  | m + 1 => (((eqG_A o m).mono (Nat.le_succ _)).or (eqG_tup (mon_A m) (eqG_A o m))).or (eqG_list (mon_A m) (eqG_A o m))
theorem op_eqAT {k j : Nat} {T : Kx} (m : Nat) (o : Opn X.prog X.w X.K X.mg X.base k (T.cl 0) "__eq__" (spN FK T S_eqF)) (hr : Room j X.A) (hk : k + m + 1 ≤ j) : OpR X (compareOp .Eq) (rEqG (DTup X.K (DA X.K T m))) :=
  op_eqG (rcG_tup (mon_A m) (eqG_A o m)) (hr.mono hk)
theorem op_neAT {k j : Nat} {T : Kx} (m : Nat) (o : Opn X.prog X.w X.K X.mg X.base k (T.cl 0) "__eq__" (spN FK T S_eqF)) (hr : Room j X.A) (hk : k + m + 1 ≤ j) : OpR X (compareOp .NotEq) (rNeG (DTup X.K (DA X.K T m))) :=
  op_neG (rcN_tup (mon_A m) (eqG_A o m)) (hr.mono hk)
end
/-- a datum of flat values and formulas, of nesting at most m -/
inductive Alk : Nat → D → Prop
  | vl {m : Nat} {v : V} : flatV v = true → Alk m (.vl v)
  | fm {m : Nat} {f : Fm} : Alk m (.fm f)
  | tup {m : Nat} {l : List D} : (∀ x ∈ l, Alk m x) → Alk (m + 1) (.tup l)
  | lst {m : Nat} {l : List D} : (∀ x ∈ l, Alk m x) → Alk (m + 1) (.lst l)
theorem eqV_same : ∀ {v : V}, flatV v = true → eqV v v = true
  | .non, _ => rfl
  | .bl b, _ => by simp [eqV]
  | .int b, _ => by simp [eqV]
  | .str b, _ => by simp [eqV]
section
variable {F : FmKit} {T : Kx} {C H H' O O' : Hp} {W W' : Om} {R : D → Om → Prop}
theorem DA.lift {K : PySem.W.Frag} {x y : V} {m : Nat} (h : DA K T 0 x y H) : DA K T m x y H := by
  induction m with
  | zero => exact h
  | succ m ih => exact .inl (.inl ih)
theorem prs_of {E : Eqv} {l : List D} {xs ys : List V} (kx : DenL F T H l xs) (ky : DenL F T H l ys) (h : ∀ d ∈ l, ∀ x y, Den F T H d x → Den F T H d y → E x y H) : Prs E xs ys H := by
  refine ⟨by rw [kx.len, ky.len], fun i x y hx hy => ?_⟩
  obtain ⟨d, hd, k1⟩ := kx.at hx
  obtain ⟨v, hv, k2⟩ := ky.get hd
  obtain rfl : v = y := Option.some.inj (hv.symm.trans hy)
  exact h d (List.mem_of_getElem? hd) _ _ k1 k2
theorem da_of {m : Nat} {d : D} (h : Alk m d) : ∀ x y, Den FK T H d x → Den FK T H d y → DA T.K T m x y H := by
  induction h with
  | vl fl =>
    intro x y hx hy
    obtain rfl : x = _ := hx
    obtain rfl : y = _ := hy
    exact DA.lift (.inl ⟨fl, fl, eqV_same fl⟩)
  | fm =>
    intro x y hx hy
    obtain ⟨a, rfl, h1⟩ := hx
    obtain ⟨b, rfl, h2⟩ := hy
    obtain ⟨dx, _, _, _, _, e1, _⟩ := h1.out
    obtain ⟨dy, _, _, _, _, e2, _⟩ := h2.out
    exact DA.lift (.inr ⟨a, b, _, _, _, _, rfl, rfl, e1, e2, _, h1, h2⟩)
  | tup _ ih =>
    intro x y hx hy
    obtain ⟨a, xs, rfl, s1, k1⟩ := hx
    obtain ⟨b, ys, rfl, s2, k2⟩ := hy
    exact .inl (.inr ⟨a, b, xs, ys, rfl, rfl, s1, s2, prs_of k1 k2 fun d hd => ih d hd⟩)
  | lst _ ih =>
    intro x y hx hy
    obtain ⟨a, xs, rfl, s1, k1⟩ := hx
    obtain ⟨b, ys, rfl, s2, k2⟩ := hy
    exact .inr ⟨a, b, xs, ys, rfl, rfl, s1, s2, prs_of k1 k2 fun d hd => ih d hd⟩
theorem grown (di : Dis O H) (oc : Same C O) (ow : Ow F T H C O W) {H1 : Hp} (e : Ext (ov O H) H1) : ∃ H2, H1 = ov O H2 ∧ Nx F T C W H H2 O := by
  have s1 : Same O H1 := fun a o h => e _ _ (ov_own h)
  have s2 : Same H (minus H1 O) := fun a o h => by
    unfold minus
    rw [di.fro h]
    exact e _ _ (di.same _ _ h)
  exact ⟨minus H1 O, (ov_minus s1).symm, s2, dis_minus, oc, ow.mono s2⟩
theorem dtup_of {m : Nat} {l : List D} (h : ∀ x ∈ l, Alk m x) (di : Dis O H) {x y : V} (hx : Den FK T H (.tup l) x) (hy : Den FK T H (.tup l) y) : DTup T.K (DA T.K T m) x y (ov O H) := by
  obtain ⟨a, xs, rfl, s1, k1⟩ := hx
  obtain ⟨b, ys, rfl, s2, k2⟩ := hy
  exact ⟨a, b, xs, ys, rfl, rfl, Same.sqT di.same s1, Same.sqT di.same s2, prs_of (k1.mono di.same) (k2.mono di.same) fun d hd => da_of (h d hd)⟩
theorem bo_eqAT {m : Nat} {l : List D} (h : ∀ x ∈ l, Alk m x) (r : R (.bl true) W) : Bo FK T (rEqG (DTup T.K (DA T.K T m))) (.tup l) (.tup l) W R := fun C H O di oc ow x y hx hy Q q =>
  ⟨dtup_of h di hx hy, fun H1 e => by
    obtain ⟨H2, rfl, n⟩ := grown di oc ow e
    exact q _ W H2 O _ r n rfl⟩
theorem bo_neAT {m : Nat} {l : List D} (h : ∀ x ∈ l, Alk m x) (r : R (.bl false) W) : Bo FK T (rNeG (DTup T.K (DA T.K T m))) (.tup l) (.tup l) W R := fun C H O di oc ow x y hx hy Q q =>
  ⟨dtup_of h di hx hy, fun H1 e => by
    obtain ⟨H2, rfl, n⟩ := grown di oc ow e
    exact q _ W H2 O _ r n rfl⟩
end
end N
set_option linter.all false
set_option maxRecDepth 100000
namespace N
open PySem PySem.Spec PyProof.Rows L2
@[reducible] def dkC (a l : Addr) (cells : List Int) (s c : Int) : Om := [(a, .dp [(kS "cells", .adr l), (kS "blend", .int s), (kS "draws", .int c)]), (l, .lst (cells.map D.int))]
def DkC : Deck := fun a c W => ∃ (l : Addr) (cells : List Int) (s n : Int), W = dkC a l cells s n ∧ cells.length ≤ 64 ∧ 0 ≤ n ∧ n ≤ c
theorem DkC_mono {a : Addr} {c c' : Int} {W : Om} (h : DkC a c W) (hc : c ≤ c') : DkC a c' W := let ⟨l, cells, s, n, h1, h2, h3, h4⟩ := h; ⟨l, cells, s, n, h1, h2, h3, by omega⟩
end N
set_option Elab.async false
set_option linter.all false
set_option maxRecDepth 100000
namespace N
open PySem PySem.Spec PyProof.Rows L2
namespace Fm
/-- ifs within one another -/
def dep : Fm → Nat
  | .imp a b => 1 + max a.dep b.dep
  | _ => 0
end Fm
end N
set_option Elab.async false
set_option linter.all false
set_option maxRecDepth 100000
set_option maxHeartbeats 1000000
set_option Elab.async false
set_option linter.all false
set_option maxRecDepth 100000
set_option maxHeartbeats 1000000
namespace N
open PySem PySem.Spec PyProof.Rows L2
namespace Fm
/-- a tree over letters outside and letters within -/
def Frm : Fm → Str → Str → Prop
  | .at c, p, _ => c ∈ lets p
  | .no, _, _ => True
  | .imp a b, p, q => Frm a p q ∧ Frm b p q
  | .all a, p, q => Frm a (p ++ q ++ q) ""
theorem frm_bare : ∀ {f : Fm}, Frm f "" "" → f.bare
  | .at c, h => by
    have h : c ∈ lets ("" : Str) := h
    rw [show lets ("" : Str) = [] from rfl] at h
    cases h
  | .no, _ => trivial
  | .imp a b, h => ⟨frm_bare h.1, frm_bare h.2⟩
  | .all a, h => frm_bare (f := a) h
theorem few_many : ∀ f : Fm, few f.many f
  | .at c => (few.at c).up (Nat.zero_le _)
  | .no => few.no.up (Nat.zero_le _)
  | .imp a b => ((few_many a).imp (few_many b)).up (by simp only [many]; omega)
  | .all a => (few_many a).all.up (by simp only [many]; omega)
theorem sz_many : ∀ f : Fm, f.sz ≤ 5 * f.many
  | .at c => by simp [sz, many]
  | .no => by simp [sz, many]
  | .imp a b => by have := sz_many a; have := sz_many b; simp only [sz, many]; omega
  | .all a => by have := sz_many a; simp only [sz, many]; omega
theorem ht_many : ∀ f : Fm, f.ht < f.many
  | .at c => by simp [ht, many]
  | .no => by simp [ht, many]
  | .imp a b => by have := ht_many a; have := ht_many b; simp only [ht, many]; omega
  | .all a => by have := ht_many a; simp only [ht, many]; omega
/-- towers of alls -/
def belo : Nat → Fm
  | 0 => .no
  | n + 1 => .all (belo n)
theorem belo_few : ∀ n, few n (belo n)
  | 0 => few.no
  | n + 1 => (belo_few n).all
theorem belo_sz : ∀ n, (belo n).sz = 4 * n + 2
  | 0 => rfl
  | n + 1 => by simp only [belo, sz, belo_sz n]; omega
theorem belo_ht : ∀ n, (belo n).ht = n
  | 0 => rfl
  | n + 1 => by simp only [belo, ht, belo_ht n]; omega
theorem belo_bare : ∀ n, (belo n).bare
  | 0 => trivial
  | n + 1 => belo_bare n
/-- small formulas without atoms -/
structure H (n s t : Nat) (f : Fm) : Prop where
  bare : f.bare
  few : few n f
  sz : f.sz ≤ s
  ht : f.ht ≤ t
theorem H.up {n s t n' s' t' : Nat} {f : Fm} (h : H n s t f) (h1 : n ≤ n') (h2 : s ≤ s') (h3 : t ≤ t') : H n' s' t' f := ⟨h.bare, h.few.up h1, Nat.le_trans h.sz h2, Nat.le_trans h.ht h3⟩
theorem H.belo (n : Nat) : H n (4 * n + 2) n (belo n) := ⟨belo_bare n, belo_few n, Nat.le_of_eq (belo_sz n), Nat.le_of_eq (belo_ht n)⟩
theorem H.no : H 0 2 0 .no := ⟨trivial, few.no, Nat.le_refl _, Nat.le_refl _⟩
theorem H.imp {n s t n' s' t' : Nat} {f g : Fm} (h : H n s t f) (k : H n' s' t' g) : H (n + n') (5 + s + s') (1 + max t t') (.imp f g) := ⟨⟨h.bare, k.bare⟩, h.few.imp k.few, by have := h.sz; have := k.sz; simp only [Fm.sz]; omega, by have := h.ht; have := k.ht; simp only [Fm.ht]; omega⟩
theorem H.all {n s t : Nat} {f : Fm} (h : H n s t f) : H (n + 1) (4 + s) (1 + t) (.all f) := ⟨h.bare, h.few.all, by have := h.sz; simp only [Fm.sz]; omega, by have := h.ht; simp only [Fm.ht]; omega⟩
theorem H.neg {n s t : Nat} {f : Fm} (h : H n s t f) : H n (7 + s) (1 + t) (neg f) := (h.imp H.no).up (by omega) (by omega) (by omega)
abbrev H26 (f : Fm) : Prop := H 40 1000 50 f
theorem H.okF {f : Fm} (h : H26 f) : f.okF := ⟨bare_ok h.bare, by have := h.sz; omega, by have := h.few.len (bare_ok h.bare); omega⟩
theorem H.tree {f : Fm} (h : Frm f "" "") (hm : f.many ≤ 40) : H26 f := ⟨frm_bare h, (few_many f).up hm, by have := sz_many f; omega, by have := ht_many f; omega⟩
end Fm
end N
set_option Elab.async false
set_option linter.all false
set_option maxRecDepth 100000
set_option maxHeartbeats 1000000
namespace N
open PySem PySem.Spec PyProof.Rows L2
namespace Fm
theorem mem_belo : ∀ {k : Nat} {g : Fm}, g ∈ (belo k).alls → ∃ i, i < k ∧ g = belo (i + 1)
  | 0, g, h => by simp [belo, alls] at h
  | k + 1, g, h => by
    rcases mem_merge.mp h with h | h
    · obtain ⟨i, hi, e⟩ := mem_belo h
      exact ⟨i, by omega, e⟩
    · rw [List.mem_singleton] at h
      exact ⟨k, by omega, h⟩
/-- no other all-parts than the first sixty-one towers -/
structure Q (s d : Nat) (f : Fm) : Prop where
  bare : f.bare
  alls : ∀ g ∈ f.alls, ∃ i, i < 61 ∧ g = belo (i + 1)
  sz : f.sz ≤ s
  dep : f.dep ≤ d
theorem Q.belo {k : Nat} (h : k ≤ 61) : Q (4 * k + 2) 0 (belo k) := ⟨belo_bare k, fun g hg => let ⟨i, hi, e⟩ := mem_belo hg; ⟨i, by omega, e⟩, Nat.le_of_eq (belo_sz k), by cases k <;> exact Nat.le_refl _⟩
theorem Q.no : Q 2 0 .no := ⟨trivial, fun g h => by simp [Fm.alls] at h, Nat.le_refl _, Nat.le_refl _⟩
theorem Q.imp {s d s' d' : Nat} {f g : Fm} (h : Q s d f) (k : Q s' d' g) : Q (5 + s + s') (1 + max d d') (.imp f g) :=
  ⟨⟨h.bare, k.bare⟩, fun x hx => (mem_merge.mp hx).elim (h.alls x) (k.alls x), by have := h.sz; have := k.sz; simp only [Fm.sz]; omega, by have := h.dep; have := k.dep; simp only [Fm.dep]; omega⟩
theorem Q.up {s d s' d' : Nat} {f : Fm} (h : Q s d f) (hs : s ≤ s') (hd : d ≤ d') : Q s' d' f := ⟨h.bare, h.alls, Nat.le_trans h.sz hs, Nat.le_trans h.dep hd⟩
theorem Q.neg {s d : Nat} {f : Fm} (h : Q s d f) : Q (7 + s) (1 + d) (neg f) := (h.imp Q.no).up (by omega) (by omega)
theorem Q.conj {s d s' d' : Nat} {f g : Fm} (h : Q s d f) (k : Q s' d' g) : Q (20 + s + s') (3 + max d d') (conj f g) := ((h.imp k.neg).neg).up (by omega) (by omega)
theorem Q.few {s d : Nat} {f : Fm} (h : Q s d f) : f.alls.length ≤ 61 := by
  have h1 := len_le (nodup_asc (alls_sub (bare_ok h.bare)).2) (m := (List.range 61).map fun i => Fm.belo (i + 1)) fun x hx => by
    obtain ⟨i, hi, e⟩ := h.alls x hx
    exact List.mem_map.mpr ⟨i, by simpa using hi, e.symm⟩
  simpa using h1
theorem Q.okF {s d : Nat} {f : Fm} (h : Q s d f) (hs : s ≤ 1000000) : f.okF := ⟨bare_ok h.bare, Nat.le_trans h.sz hs, by have := h.few; omega⟩
/-- just at one height -/
def one (h : Nat) : Fm := conj (belo (h + 1)) (neg (belo h))
theorem Q.one {h : Nat} (hh : h ≤ 60) : Q (40 + 8 * h) 4 (one h) := ((Q.belo (by omega)).conj (Q.belo (by omega)).neg).up (by omega) (by omega)
end Fm
end N
set_option Elab.async false
set_option linter.all false
set_option maxRecDepth 100000
set_option maxHeartbeats 1000000
set_option Elab.async false
set_option linter.all false
set_option maxRecDepth 100000
set_option maxHeartbeats 1000000
namespace N
open PySem PySem.Spec PyProof.Rows L2
theorem inst_rl {F : FmKit} {W : Om} (rs : List (Nat × Fm)) : Inst F W (rlD rs) 3 rlNames [rowsZ rs, .dct ((rlPs rs).map (·.1)) ((rlPs rs).map (·.2))] := .obj _ _ _
end N
set_option Elab.async false
set_option linter.all false
set_option maxRecDepth 100000
set_option maxHeartbeats 1000000
set_option Elab.async false
set_option linter.all false
set_option maxRecDepth 100000
set_option maxHeartbeats 1000000
namespace N
open PySem PySem.Spec PyProof.Rows L2
def lookN (l : List (Nat × Fm)) (c : Nat) : Option Fm := (l.find? fun p => decide (p.1 = c)).map (·.2)
def putN (l : List (Nat × Fm)) (c : Nat) (f : Fm) : List (Nat × Fm) := if (l.any fun q => decide (q.1 = c)) = true then l.map (fun q => if q.1 = c then (q.1, f) else q) else l ++ [(c, f)]
def mrgR (rs ts : List (Nat × Fm)) : List (Nat × Fm) := ts.foldl (fun acc p => putN acc p.1 p.2) rs
def srtR (l : List (Nat × Fm)) : List (Nat × Fm) := (ascN (l.map (·.1))).map fun c => (c, (lookN l c).getD .no)
theorem key_sg {a b : Nat} : (Sum.inr (sg a) : Key) = Sum.inr (sg b) ↔ a = b := ⟨fun h => sg_inj (Sum.inr.inj h), fun h => by rw [h]⟩
theorem getG_tab (g : Fm → D) (l : List (Nat × Fm)) (c : Nat) : getG (tabL g l) (Sum.inr (sg c)) = (lookN l c).map g := by
  unfold getG tabL lookN
  rw [List.find?_map, Option.map_map, Option.map_map]
  have : ((fun q : Key × D => decide (q.1 = Sum.inr (sg c))) ∘ fun p : Nat × Fm => ((Sum.inr (sg p.1) : Key), g p.2)) = fun p => decide (p.1 = c) := funext fun p => decide_eq_decide.mpr key_sg
  rw [this]
  rfl
theorem putG_tab (g : Fm → D) (l : List (Nat × Fm)) (c : Nat) (f : Fm) : putG (tabL g l) (Sum.inr (sg c)) (g f) = tabL g (putN l c f) := by
  unfold putG putN tabL
  rw [List.any_map]
  have : ((fun q : Key × D => decide (q.1 = Sum.inr (sg c))) ∘ fun p : Nat × Fm => ((Sum.inr (sg p.1) : Key), g p.2)) = fun p => decide (p.1 = c) := funext fun p => decide_eq_decide.mpr key_sg
  rw [this]
  split
  · rw [List.map_map, List.map_map]
    refine List.map_congr_left fun p _ => ?_
    simp only [Function.comp]
    by_cases h : p.1 = c
    · rw [if_pos (key_sg.mpr h), if_pos h]
    · rw [if_neg (fun e => h (key_sg.mp e)), if_neg h]
  · rw [List.map_append]
    rfl
theorem upG_tab (g : Fm → D) : ∀ (ts rs : List (Nat × Fm)), (tabL g ts).foldl (fun acc kv => putG acc kv.1 kv.2) (tabL g rs) = tabL g (mrgR rs ts)
  | [], _ => rfl
  | p :: ts, rs => by
    show (tabL g ts).foldl _ (putG (tabL g rs) (Sum.inr (sg p.1)) (g p.2)) = _
    rw [putG_tab]
    exact upG_tab g ts _
theorem mergeG_tab (g : Fm → D) {rs ts : List (Nat × Fm)} (nd : (rs.map (·.1)).Nodup) : mergeG (tabL g rs ++ tabL g ts) = tabL g (mrgR rs ts) := by
  unfold mergeG
  rw [List.foldl_append]
  have h := mergeG_nd (tabL_nd (f := g) nd)
  unfold mergeG at h
  rw [h]
  exact upG_tab g ts rs
theorem any_key {l : List (Nat × Fm)} {c : Nat} : (l.any fun q => decide (q.1 = c)) = true ↔ c ∈ l.map (·.1) := by
  rw [List.any_eq_true]
  constructor
  · rintro ⟨p, hp, e⟩
    exact List.mem_map.mpr ⟨p, hp, of_decide_eq_true e⟩
  · intro h
    obtain ⟨p, hp, e⟩ := List.mem_map.mp h
    exact ⟨p, hp, decide_eq_true e⟩
theorem putN_keys (l : List (Nat × Fm)) (c : Nat) (f : Fm) : (putN l c f).map (·.1) = if c ∈ l.map (·.1) then l.map (·.1) else l.map (·.1) ++ [c] := by
  unfold putN
  by_cases h : c ∈ l.map (·.1)
  · rw [if_pos (any_key.mpr h), if_pos h, List.map_map]
    refine List.map_congr_left fun p _ => ?_
    show (if p.1 = c then (p.1, f) else p).1 = p.1
    split <;> rfl
  · rw [if_neg (fun e => h (any_key.mp e)), if_neg h, List.map_append]
    rfl
theorem mem_putN {l : List (Nat × Fm)} {c d : Nat} {f : Fm} : d ∈ (putN l c f).map (·.1) ↔ d ∈ l.map (·.1) ∨ d = c := by
  rw [putN_keys]
  by_cases h : c ∈ l.map (·.1)
  · rw [if_pos h]
    exact ⟨.inl, fun x => x.elim id fun e => e ▸ h⟩
  · rw [if_neg h, List.mem_append, List.mem_singleton]
theorem putN_nd {l : List (Nat × Fm)} {c : Nat} {f : Fm} (nd : (l.map (·.1)).Nodup) : ((putN l c f).map (·.1)).Nodup := by
  rw [putN_keys]
  by_cases h : c ∈ l.map (·.1)
  · rw [if_pos h]
    exact nd
  · rw [if_neg h, List.nodup_append]
    refine ⟨nd, by simp, fun a ha b hb e => ?_⟩
    rw [List.mem_singleton] at hb
    exact h (hb ▸ e ▸ ha)
theorem lookN_mem {l : List (Nat × Fm)} {c : Nat} {f : Fm} (h : lookN l c = some f) : (c, f) ∈ l := by
  unfold lookN at h
  obtain ⟨p, hp, e⟩ := Option.map_eq_some_iff.mp h
  have e1 : p.1 = c := of_decide_eq_true (List.find?_some (p := fun p : Nat × Fm => decide (p.1 = c)) hp)
  have := List.mem_of_find?_eq_some hp
  rw [← e1, ← e]
  exact this
theorem lookN_none {l : List (Nat × Fm)} {c : Nat} : lookN l c = none ↔ c ∉ l.map (·.1) := by
  unfold lookN
  rw [Option.map_eq_none_iff, List.find?_eq_none]
  constructor
  · intro h m
    obtain ⟨p, hp, e⟩ := List.mem_map.mp m
    exact h p hp (decide_eq_true e)
  · intro h p hp e
    exact h (List.mem_map.mpr ⟨p, hp, of_decide_eq_true e⟩)
theorem lookN_of {l : List (Nat × Fm)} {c : Nat} {f : Fm} (nd : (l.map (·.1)).Nodup) (h : (c, f) ∈ l) : lookN l c = some f := by
  cases e : lookN l c with
  | none => exact absurd (List.mem_map.mpr ⟨_, h, rfl⟩) (lookN_none.mp e)
  | some g =>
    have m := lookN_mem e
    obtain ⟨i, hi⟩ := List.getElem?_of_mem h
    obtain ⟨j, hj⟩ := List.getElem?_of_mem m
    have e1 : (l.map (·.1))[i]? = some c := by rw [List.getElem?_map, hi]; rfl
    have e2 : (l.map (·.1))[j]? = some c := by rw [List.getElem?_map, hj]; rfl
    have li := (List.getElem?_eq_some_iff.mp e1).1
    have : i = j := (List.getElem?_inj li nd).mp (e1.trans e2.symm)
    subst this
    rw [hi] at hj
    have := congrArg Prod.snd (Option.some.inj hj)
    exact congrArg some this.symm
theorem lookN_isSome {l : List (Nat × Fm)} {c : Nat} (h : c ∈ l.map (·.1)) : ∃ f, lookN l c = some f := by
  cases e : lookN l c with
  | none => exact absurd h (lookN_none.mp e)
  | some f => exact ⟨f, rfl⟩
theorem lookN_cons (p : Nat × Fm) (l : List (Nat × Fm)) (c : Nat) : lookN (p :: l) c = if p.1 = c then some p.2 else lookN l c := by
  unfold lookN
  rw [List.find?_cons]
  by_cases h : p.1 = c
  · rw [decide_eq_true h, if_pos h]
    rfl
  · rw [decide_eq_false h, if_neg h]
theorem lookN_map (l : List (Nat × Fm)) (c d : Nat) (f : Fm) : lookN (l.map fun q => if q.1 = c then (q.1, f) else q) d = if d = c ∧ c ∈ l.map (·.1) then some f else lookN l d := by
  induction l with
  | nil => simp [lookN]
  | cons p l ih =>
    rw [List.map_cons, lookN_cons, lookN_cons, ih]
    have e1 : (if p.1 = c then (p.1, f) else p).1 = p.1 := by split <;> rfl
    rw [e1]
    by_cases hd : p.1 = d
    · rw [if_pos hd, if_pos hd]
      by_cases hc : p.1 = c
      · rw [if_pos hc, if_pos ⟨hd ▸ hc, by rw [← hc]; exact List.mem_cons_self⟩]
      · rw [if_neg hc, if_neg (fun h => hc (hd.trans h.1))]
    · rw [if_neg hd, if_neg hd]
      by_cases h : d = c ∧ c ∈ l.map (·.1)
      · rw [if_pos h, if_pos ⟨h.1, List.mem_cons_of_mem _ h.2⟩]
      · rw [if_neg h]
        rw [if_neg (fun h2 : d = c ∧ c ∈ (p :: l).map (·.1) => (List.mem_cons.mp h2.2).elim (fun e => hd (h2.1.trans e).symm) fun m => h ⟨h2.1, m⟩)]
theorem lookN_app (l : List (Nat × Fm)) (c d : Nat) (f : Fm) : lookN (l ++ [(c, f)]) d = (lookN l d).or (if c = d then some f else none) := by
  induction l with
  | nil => rw [List.nil_append, lookN_cons]; rfl
  | cons p l ih =>
    rw [List.cons_append, lookN_cons, lookN_cons, ih]
    split <;> rfl
theorem lookN_put (l : List (Nat × Fm)) (c d : Nat) (f : Fm) : lookN (putN l c f) d = if d = c then some f else lookN l d := by
  unfold putN
  by_cases h : c ∈ l.map (·.1)
  · rw [if_pos (any_key.mpr h), lookN_map]
    by_cases e : d = c
    · rw [if_pos ⟨e, h⟩, if_pos e]
    · rw [if_neg (fun x => e x.1), if_neg e]
  · rw [if_neg (fun e => h (any_key.mp e)), lookN_app]
    by_cases e : d = c
    · rw [if_pos e, if_pos e.symm, e, lookN_none.mpr h]
      rfl
    · rw [if_neg e, if_neg (fun x => e x.symm)]
      cases lookN l d <;> rfl
theorem putN_len (l : List (Nat × Fm)) (c : Nat) (f : Fm) : (putN l c f).length ≤ l.length + 1 := by
  unfold putN
  split <;> simp
theorem srtR_keys (l : List (Nat × Fm)) : (srtR l).map (·.1) = ascN (l.map (·.1)) := by
  unfold srtR
  rw [List.map_map]
  exact List.map_id _
theorem srtR_asc (l : List (Nat × Fm)) : ((srtR l).map (·.1)).Pairwise (· < ·) := by
  rw [srtR_keys]
  exact asc_ascN _
theorem srtR_look {l : List (Nat × Fm)} {p : Nat × Fm} (h : p ∈ srtR l) : lookN l p.1 = some p.2 := by
  unfold srtR at h
  obtain ⟨c, hc, rfl⟩ := List.mem_map.mp h
  obtain ⟨f, e⟩ := lookN_isSome (mem_ascN.mp hc)
  show lookN l c = some ((lookN l c).getD .no)
  rw [e]
  rfl
theorem srtR_mem {l : List (Nat × Fm)} {p : Nat × Fm} (h : p ∈ srtR l) : p ∈ l := lookN_mem (srtR_look h)
theorem mem_srtR {l : List (Nat × Fm)} (nd : (l.map (·.1)).Nodup) {p : Nat × Fm} (h : p ∈ l) : p ∈ srtR l := by
  have e := lookN_of (f := p.2) nd h
  unfold srtR
  refine List.mem_map.mpr ⟨p.1, mem_ascN.mpr (List.mem_map.mpr ⟨p, h, rfl⟩), ?_⟩
  rw [e]
  rfl
theorem nd_pairs {l : List (Nat × Fm)} (nd : (l.map (·.1)).Nodup) : l.Nodup := by
  rw [List.nodup_iff_pairwise_ne, List.pairwise_map] at nd
  exact nd.imp fun h e => h (congrArg Prod.fst e)
theorem srtR_nd (l : List (Nat × Fm)) : ((srtR l).map (·.1)).Nodup := (srtR_asc l).imp fun h => Nat.ne_of_lt h
theorem srtR_perm {l : List (Nat × Fm)} (nd : (l.map (·.1)).Nodup) : l.Perm (srtR l) :=
  (List.perm_ext_iff_of_nodup (nd_pairs nd) (nd_pairs (srtR_nd l))).mpr fun _ => ⟨mem_srtR nd, srtR_mem⟩
theorem srtR_len {l : List (Nat × Fm)} (nd : (l.map (·.1)).Nodup) : (srtR l).length = l.length := (srtR_perm nd).length_eq.symm
theorem srtR_ext {l m : List (Nat × Fm)} (hk : ∀ c, c ∈ l.map (·.1) ↔ c ∈ m.map (·.1)) (hl : ∀ c, lookN l c = lookN m c) : srtR l = srtR m := by
  unfold srtR
  rw [ascN_ext (asc_ascN (l.map (·.1))) (asc_ascN (m.map (·.1))) fun x => mem_ascN.trans ((hk x).trans mem_ascN.symm)]
  refine List.map_congr_left fun c _ => ?_
  rw [hl]
theorem srtR_id {l : List (Nat × Fm)} (h : (l.map (·.1)).Pairwise (· < ·)) : srtR l = l := by
  have e : ascN (l.map (·.1)) = l.map (·.1) := ascN_ext (asc_ascN _) h fun x => mem_ascN
  unfold srtR
  rw [e, List.map_map]
  have nd : (l.map (·.1)).Nodup := h.imp fun h => Nat.ne_of_lt h
  conv => rhs; rw [← List.map_id l]
  refine List.map_congr_left fun p hp => ?_
  show (p.1, (lookN l p.1).getD .no) = p
  rw [lookN_of (f := p.2) nd hp]
  rfl
structure RwsA (j : List (Nat × Fm)) : Prop where
  asc : (j.map (·.1)).Pairwise (· < ·)
  cap : ∀ p ∈ j, 65 ≤ p.1 ∧ p.1 ≤ 90
  form : ∀ p ∈ j, p.2.okF
def bentR (j : List (Nat × Fm)) (f : Fm) : Bool := (lets f.outer).any fun c => decide (c ∈ j.map (·.1))
def rlErr (j : List (Nat × Fm)) : Option Str := if j.length = 0 ∨ 4 < j.length then some "rows" else (j.find? fun p => bentR j p.2).map fun p => sg p.1
theorem rlErr_ok {j : List (Nat × Fm)} (h : RwsA j) (e : rlErr j = none) : rlOk j := by
  unfold rlErr at e
  split at e
  · cases e
  · rename_i hl
    rw [Option.map_eq_none_iff, List.find?_eq_none] at e
    refine ⟨fun z => hl (.inl (by rw [z]; rfl)), by omega, h.asc, h.cap, h.form, fun p hp c hc hm => ?_⟩
    refine e p hp ?_
    unfold bentR
    exact List.any_eq_true.mpr ⟨c, hc, decide_eq_true hm⟩
theorem rlOk.rws {j : List (Nat × Fm)} (h : rlOk j) : RwsA j := ⟨h.asc, h.cap, h.form⟩
def Fm.py : Fm → PyData
  | .at c => .tuple [.str "atom", .str (sg c)]
  | .no => .tuple [.str "no"]
  | .imp a b => .tuple [.str "if", a.py, b.py]
  | .all a => .tuple [.str "all", a.py]
end N
set_option Elab.async false
set_option linter.all false
set_option maxRecDepth 100000
set_option maxHeartbeats 1000000
namespace N
open PySem PySem.Spec PyProof.Rows L2
section
variable {F : FmKit} {T : Kx} {C H H' O O' : Hp} {G : Gm} {W W' : Om} {R : D → Om → Prop} {σ : L2.St} {d : D} {te : TE}
/-- what is laid beside all that is there -/
theorem Nx.wide {H1 O1 : Hp} (n : Nx F T C W H H1 O1) {Hx : Hp} (hx : ∀ b o, ov O1 H1 b = some o → Hx b = some o) : ∃ H2, Nx F T C W H H2 O1 ∧ Hx = ov O1 H2 ∧ Same H1 H2 ∧ ∀ b, ov O1 H1 b = none → H2 b = Hx b := by
  refine ⟨fun b => match O1 b with | some _ => none | none => Hx b, ?_, ?_, ?_, ?_⟩
  · have s : Same H1 fun b => match O1 b with | some _ => none | none => Hx b := fun b o e => by
      have o1 : O1 b = none := by
        cases h : O1 b with
        | none => rfl
        | some v => rw [n.dis b v h] at e; cases e
      show (match O1 b with | some _ => none | none => Hx b) = some o
      rw [o1]
      exact hx b o (n.dis.same b o e)
    refine ⟨n.ext.trans s, fun b o e => ?_, n.oc, n.own.mono s⟩
    show (match O1 b with | some _ => none | none => Hx b) = none
    rw [e]
  · funext b
    show Hx b = match O1 b with | some o => some o | none => (match O1 b with | some _ => none | none => Hx b)
    cases h : O1 b with
    | none => rfl
    | some v => exact hx b v (by show (match O1 b with | some o => some o | none => H1 b) = some v; rw [h])
  · intro b o e
    have o1 : O1 b = none := by
      cases h : O1 b with
      | none => rfl
      | some v => rw [n.dis b v h] at e; cases e
    show (match O1 b with | some _ => none | none => Hx b) = some o
    rw [o1]
    exact hx b o (n.dis.same b o e)
  · intro b e
    show (match O1 b with | some _ => none | none => Hx b) = Hx b
    cases h : O1 b with
    | none => rfl
    | some v =>
      have e : (match O1 b with | some o => some o | none => H1 b) = none := e
      rw [h] at e
      cases e
theorem pairs_den {H0 : Hp} : ∀ {ts : List Addr} {kvs : List (Key × V)} {ps : List (Key × D)}, Paired (fun (t : Addr) (q : Key × V) => H0 t = some (.tup [kV q.1, q.2])) ts kvs → kvs.map (·.1) = ps.map (·.1) → DenL F T H0 (ps.map (·.2)) (kvs.map (·.2)) →
    DenL F T H0 (ps.map fun p => .tup [kD p.1, p.2]) (ts.map V.ref)
  | [], [], [], _, _, _ => rfl
  | [], [], _ :: _, _, e, _ => by cases e
  | _ :: _, _ :: _, [], _, e, _ => by cases e
  | t :: ts, q :: kvs, p :: ps, .cons h r, e, k => by
    obtain ⟨v, r2, e2, k1, k2⟩ := k
    have e2 : q.2 :: kvs.map (·.2) = v :: r2 := e2
    obtain ⟨rfl, rfl⟩ := List.cons.inj e2
    have e : q.1 :: kvs.map (·.1) = p.1 :: ps.map (·.1) := e
    obtain ⟨e3, e4⟩ := List.cons.inj e
    refine ⟨.ref t, _, rfl, ⟨t, [kV q.1, q.2], rfl, .inl (.inl h), ?_⟩, pairs_den r e4 k2⟩
    rw [e3]
    exact ⟨_, _, rfl, rfl, .one k1⟩
/-- list(d.items()) -/
theorem ev_listItems (h : Ev F T te G W fun d W1 => ∃ ps, Vd W1 d ps ∧ R (.lst (ps.map fun p => .tup [kD p.1, p.2])) W1) : Ev F T (LiI.tListItems te) G W R := fun C H O σ w Q q =>
  h C H O σ w _ fun d W1 H1 O1 x ⟨ps, hv, r⟩ n k => by
    obtain ⟨a, kvs, e, h1, h2, h3, h4⟩ := hv.at n.dis n.own k
    refine ⟨a, kvs, e, h1, fun Hx p ts hx hp hts hpt hl hpair => ?_⟩
    obtain ⟨H2, n2, e2, s2, low⟩ := n.wide hx
    have hpair2 : Paired (fun (t : Addr) (q : Key × V) => H2 t = some (.tup [kV q.1, q.2])) ts kvs := by
      clear hl hpt h2 h4 h1
      induction hpair with
      | nil => exact .nil
      | cons hh _ ih => exact .cons (by rw [low _ (hts _ List.mem_cons_self)]; exact hh) (ih fun t ht => hts t (List.mem_cons_of_mem _ ht))
    rw [e2]
    exact q _ W1 H2 O1 (.ref p) r n2 ⟨p, _, rfl, by rw [low p hp]; exact hl, pairs_den hpair2 h2 (h4.mono s2)⟩
def rLenDk : List V → Hp → VK → Prop := fun xs H Q => ∃ a kvs, xs = [V.ref a] ∧ H a = some (.dK kvs) ∧ Q (.int kvs.length) H
theorem cr_lenDk {X : Cx} : CallR X (.builtin "len") rLenDk := call_lenD
theorem ca_lenDk {ps : List (Key × D)} (hv : Vd W d ps) (h : R (.int (ps.length : Nat)) W) : Ca F T rLenDk [d] W R := ca_one fun C H O di oc ow x hx Q q => by
  obtain ⟨a, kvs, e, h1, h2, h3, h4⟩ := hv.at di ow hx
  have hl : kvs.length = ps.length := by simpa using congrArg List.length h2
  exact ⟨a, kvs, by rw [e], h1, by rw [hl]; exact q _ W H O _ h (.refl di oc ow) rfl⟩
end
end N
set_option Elab.async false
set_option linter.all false
set_option maxRecDepth 100000
set_option maxHeartbeats 1000000
set_option Elab.async false
set_option linter.all false
set_option maxRecDepth 100000
set_option maxHeartbeats 1000000
namespace N
open PySem PySem.Spec PyProof.Rows L2
theorem strOk_sg {c : Nat} (h : ltr c) : PyData.strOk (sg c) = true := strOk_low fun d hd => by
  have hd : d ∈ [c] := hd
  rw [List.mem_singleton] at hd
  have h : (65 ≤ c ∧ c ≤ 90) ∨ (97 ≤ c ∧ c ≤ 122) := h
  omega
theorem Fm.canLay : ∀ {f : Fm}, f.okL → PyData.canLay0 f.py = true
  | .at c, h => by
    have h1 := strOk_sg h
    have h2 : PyData.strOk "atom" = true := by decide +kernel
    simp [Fm.py, PyData.canLay0, PyData.canLayAll0, h1, h2]
  | .no, _ => by decide +kernel
  | .imp a b, h => by
    have h1 := Fm.canLay h.1
    have h3 := Fm.canLay h.2
    have h2 : PyData.strOk "if" = true := by decide +kernel
    simp [Fm.py, PyData.canLay0, PyData.canLayAll0, h1, h2, h3]
  | .all a, h => by
    have h1 := Fm.canLay (f := a) h
    have h2 : PyData.strOk "all" = true := by decide +kernel
    simp [Fm.py, PyData.canLay0, PyData.canLayAll0, h1, h2]
theorem Fm.depth_py : ∀ f : Fm, PyData.depth f.py ≤ f.ht + 1
  | .at c => by simp [Fm.py, Fm.ht, PyData.depth, PyData.depthAll]
  | .no => by simp [Fm.py, Fm.ht, PyData.depth, PyData.depthAll]
  | .imp a b => by
    have := Fm.depth_py a
    have := Fm.depth_py b
    simp only [Fm.py, Fm.ht, PyData.depth, PyData.depthAll]
    omega
  | .all a => by
    have := Fm.depth_py a
    simp only [Fm.py, Fm.ht, PyData.depth, PyData.depthAll]
    omega
theorem Fm.shaped {f : Fm} (h : f.okL) (hh : f.ht < 60) : SeqAt.shaped f.py = true := by
  have := Fm.depth_py f
  unfold SeqAt.shaped
  rw [Fm.canLay h, Bool.true_and, decide_eq_true_eq]
  omega
theorem find_at {j : List (Nat × Fm)} {q : Nat × Fm → Bool} {i : Nat} {e : Nat × Fm} (h : j[i]? = some e) (he : q e = true) (hno : ∀ p ∈ j.take i, q p = false) : j.find? q = some e := by
  rw [List.find?_eq_some_iff_append]
  obtain ⟨hi, e1⟩ := List.getElem?_eq_some_iff.mp h
  refine ⟨he, j.take i, j.drop (i + 1), ?_, fun a ha => by rw [hno a ha]; rfl⟩
  rw [← e1, List.getElem_cons_drop, List.take_append_drop]
theorem rlPs_mergeA {rs : List (Nat × Fm)} (h : RwsA rs) : mergeG (rlPs rs) = rlPs rs := by
  have nd : (rs.map (·.1)).Nodup := h.asc.imp fun h => Nat.ne_of_lt h
  exact mergeG_nd (tabL_nd (f := D.fm) nd)
/-- rules drawn: small forms -/
structure Sml (rs : List (Nat × Fm)) : Prop where
  ok : rlOk rs
  sm : ∀ p ∈ rs, p.2.many ≤ 9
theorem Sml.ht {rs : List (Nat × Fm)} (h : Sml rs) : ∀ p ∈ rs, p.2.ht < 50 := fun p hp => by
  have := Fm.ht_many p.2
  have := h.sm p hp
  omega
theorem mem_putN_val {l : List (Nat × Fm)} {c : Nat} {f : Fm} (hc : c ∈ l.map (·.1)) {p : Nat × Fm} (h : p ∈ putN l c f) : p ∈ l ∨ p = (c, f) := by
  unfold putN at h
  rw [if_pos (any_key.mpr hc)] at h
  obtain ⟨q, hq, rfl⟩ := List.mem_map.mp h
  by_cases e : q.1 = c
  · rw [if_pos e, e]
    exact .inr rfl
  · rw [if_neg e]
    exact .inl hq
theorem Sml.put {ts : List (Nat × Fm)} (h : Sml ts) {c : Nat} {f : Fm} (hc : c ∈ ts.map (·.1)) (hf : f.okF) (hm : f.many ≤ 9) (hb : bentR ts f = false) : Sml (putN ts c f) ∧ (putN ts c f).map (·.1) = ts.map (·.1) := by
  have hk : (putN ts c f).map (·.1) = ts.map (·.1) := by rw [putN_keys, if_pos hc]
  refine ⟨⟨⟨fun e => ?_, ?_, by rw [hk]; exact h.ok.asc, fun p hp => ?_, fun p hp => ?_, fun p hp d hd => ?_⟩, fun p hp => ?_⟩, hk⟩
  · rw [e] at hk
    exact h.ok.some_ (List.map_eq_nil_iff.mp hk.symm)
  · have := congrArg List.length hk
    rw [List.length_map, List.length_map] at this
    have := h.ok.few
    omega
  · rcases mem_putN_val hc hp with h1 | rfl
    · exact h.ok.cap p h1
    · obtain ⟨q, hq, e⟩ := List.mem_map.mp hc
      have := h.ok.cap q hq
      rw [e] at this
      exact this
  · rcases mem_putN_val hc hp with h1 | rfl
    · exact h.ok.form p h1
    · exact hf
  · rw [hk]
    rcases mem_putN_val hc hp with h1 | rfl
    · exact h.ok.bare p h1 d hd
    · intro hm2
      unfold bentR at hb
      rw [List.any_eq_false] at hb
      exact hb d hd (decide_eq_true hm2)
  · rcases mem_putN_val hc hp with h1 | rfl
    · exact h.sm p h1
    · exact hm
structure SmF (j : List (Nat × Fm)) : Prop where
  few : j.length ≤ 8
  cap : ∀ p ∈ j, 65 ≤ p.1 ∧ p.1 ≤ 90
  ok : ∀ p ∈ j, p.2.okL
  sm : ∀ p ∈ j, p.2.many ≤ 9
theorem Sml.f {rs : List (Nat × Fm)} (h : Sml rs) : SmF rs := ⟨by have := h.ok.few; omega, h.ok.cap, fun p hp => (h.ok.form p hp).ok, h.sm⟩
end N
set_option Elab.async false
set_option linter.all false
set_option maxRecDepth 100000
namespace N
open PySem PySem.Spec PyProof.Rows L2
abbrev Rl := List (Nat × Fm)
def tupR (l : List Rl) : D := .tup (l.map rlD)
def deO (r : Rl) (as ls : List Rl) : OD := .ins 4 deNames [rlD r, tupR as, tupR ls]
theorem inst_de {F : FmKit} {W : Om} {p : Addr} {r : Rl} {as ls : List Rl} (h : (p, deO r as ls) ∈ W) : Inst F W (.adr p) 4 deNames [rlD r, tupR as, tupR ls] := .own _ _ _ _ h
theorem rcv_de {F : FmKit} {T : Kx} {p : Addr} {zv : D} {n : Str} {l : List D} {RR : Om → Prop} (z : CZ T.K (T.cl 4) deNames) (j : Nat) (hn : n ∈ deNames) (hj : deNames[j]? = some n) (r : RR [(p, .ins 4 deNames (l.set j zv))]) : Rcv F T (.adr p) zv n [(p, .ins 4 deNames l)] RR :=
  ⟨p, 4, deNames, l, [], [], _, _, rfl, rfl, z.cls, z.nos n hn, by decide, .at deNames l j (by decide +kernel) hj, r⟩
theorem deO_snoc (q r : Rl) (as ls : List Rl) : deO q (as ++ [r]) ls = .ins 4 deNames [rlD q, .tup (as.map rlD ++ [rlD r]), tupR ls] := by unfold deO tupR; rw [List.map_append]; rfl
def S_initDe : FS := fun ds W post => ∃ (x : Addr) (r : Rl), ds = [.adr x, rlD r] ∧ W = [(x, .ins 4 [] [])] ∧ post .non [(x, deO r [] [])]
def S_rulesDe : FS := fun ds W post => ∃ (p : Addr) (r : Rl) (as ls : List Rl), ds = [.adr p] ∧ W = [(p, deO r as ls)] ∧ rlOk r ∧ post (rlD r) [(p, deO r as ls)]
def S_lenDe : FS := fun ds W post => ∃ (p : Addr) (r : Rl) (as ls : List Rl), ds = [.adr p] ∧ W = [(p, deO r as ls)] ∧ rlOk r ∧ post (.int (r.length : Nat)) [(p, deO r as ls)]
def txtV (d : D) : Prop := (∃ x : Str, d = .str x ∧ x.length ≤ 16777216) ∨ notStr d
def S_lenRu : FS := fun ds W post => ∃ rs : Rl, ds = [rlD rs] ∧ W = [] ∧ rlOk rs ∧ post (.int (rs.length : Nat)) []
end N
set_option Elab.async false
set_option linter.all false
set_option maxRecDepth 100000
set_option maxHeartbeats 1000000
namespace N
open PySem PySem.Spec PyProof.Rows L2
def Fm.trC : Fm → D
  | .at c => .tup [.str "at", .str (sg c)]
  | .no => .tup [.str "no"]
  | .imp a b => .tup [.str "if", a.trC, b.trC]
  | .all a => .tup [.str "all", a.trC]
abbrev frmC (l : List (Nat × Fm)) : List (Key × D) := tabL Fm.trC l
abbrev dctC (l : List (Nat × Fm)) : D := .dct ((frmC l).map (·.1)) ((frmC l).map (·.2))
theorem okF_many {f : Fm} (h : f.okL) (hm : f.many ≤ 60) : f.okF := ⟨h, by have := Fm.sz_many f; omega, by have := (Fm.few_many f).len h; omega⟩
def S_builtC (j : Nat) : FS := fun ds W post => ∃ f : Fm, ds = [f.trC] ∧ W = [] ∧ f.ht < j ∧ f.okF ∧ post (.fm f) []
def S_treeC (j : Nat) : FS := fun ds W post => ∃ (a : Addr) (c : Int) (p : Str) (n : Nat), ds = [.adr a, .str p, .int (n : Nat)] ∧ DkC a c W ∧ n < j ∧ j ≤ 20 ∧ letters p ∧ p.length ≠ 0 ∧ p.length ≤ 1000 ∧ c + 4 * 2 ^ n < 2 ^ 59 ∧
  ∀ (f : Fm) (W' : Om), f.okL → f.many + 1 ≤ 2 ^ (n + 1) → DkC a (c + (4 * 2 ^ n - 1)) W' → post f.trC W'
def S_formC : FS := fun ds W post => ∃ (a : Addr) (c : Int) (p : Str), ds = [.adr a, .str p] ∧ DkC a c W ∧ letters p ∧ p.length ≤ 900 ∧ c + 100 < 2 ^ 59 ∧
  ∀ (f : Fm) (W' : Om), f.okL → f.many ≤ 10 → (∀ c ∈ lets f.outer, 97 ≤ c) → DkC a (c + 17) W' → post f.trC W'
end N
set_option Elab.async false
set_option linter.all false
set_option maxRecDepth 100000
set_option maxHeartbeats 1000000
namespace N
open PySem PySem.Spec PyProof.Rows L2
def tabO (g : Nat → D) (l : Rl) : List (Key × D) := l.map fun p => ((Sum.inr (sg p.1) : Key), g p.1)
abbrev rowsO (g : Nat → D) (l : Rl) : D := .tup (l.map fun p => .tup [.str (sg p.1), g p.1])
theorem getG_tabO {g : Nat → D} {l : Rl} {c : Nat} (h : c ∈ l.map (·.1)) : getG (tabO g l) (Sum.inr (sg c)) = some (g c) := by
  unfold getG tabO
  rw [List.find?_map, Option.map_map]
  have e : ((fun q : Key × D => decide (q.1 = Sum.inr (sg c))) ∘ fun p : Nat × Fm => ((Sum.inr (sg p.1) : Key), g p.1)) = fun p => decide (p.1 = c) := funext fun p => decide_eq_decide.mpr key_sg
  rw [e]
  cases ef : l.find? fun p => decide (p.1 = c) with
  | none =>
    obtain ⟨p, hp, e2⟩ := List.mem_map.mp h
    exact absurd (decide_eq_true e2) (List.find?_eq_none.mp ef p hp)
  | some p =>
    have e1 : p.1 = c := of_decide_eq_true (List.find?_some (p := fun p : Nat × Fm => decide (p.1 = c)) ef)
    show some (g p.1) = _
    rw [e1]
theorem putG_tabO (g : Nat → D) (l : Rl) (c : Nat) (d : D) (f : Fm) : putG (tabO g l) (Sum.inr (sg c)) d = tabO (fun x => if x = c then d else g x) (putN l c f) := by
  unfold putG putN tabO
  rw [List.any_map]
  have e : ((fun q : Key × D => decide (q.1 = Sum.inr (sg c))) ∘ fun p : Nat × Fm => ((Sum.inr (sg p.1) : Key), g p.1)) = fun p => decide (p.1 = c) := funext fun p => decide_eq_decide.mpr key_sg
  rw [e]
  split
  · rw [List.map_map, List.map_map]
    refine List.map_congr_left fun p _ => ?_
    simp only [Function.comp]
    by_cases h : p.1 = c
    · rw [if_pos (key_sg.mpr h), if_pos h]
      simp [h]
    · rw [if_neg (fun e => h (key_sg.mp e)), if_neg h]
      simp [h]
  · rename_i hn
    rw [List.map_append]
    refine congr (congrArg _ (List.map_congr_left fun p hp => ?_)) (by simp)
    have : p.1 ≠ c := fun e => hn (List.any_eq_true.mpr ⟨p, hp, decide_eq_true e⟩)
    simp [this]
def gF (l : Rl) (c : Nat) : D := .fm ((lookN l c).getD .no)
theorem tabL_O {l : Rl} (nd : (l.map (·.1)).Nodup) : tabL D.fm l = tabO (gF l) l := by
  unfold tabL tabO gF
  refine List.map_congr_left fun p hp => ?_
  rw [lookN_of (f := p.2) nd hp]
  rfl
def S_rowsbyO : FS := fun ds W post => ∃ (q : Addr) (l : Rl) (g : Nat → D), ds = [.adr q] ∧ W = [(q, .dp (tabO g l))] ∧ (l.map (·.1)).Nodup ∧ l.length < 60 ∧ post (rowsO g (srtR l)) []
def S_checkXO : FX := fun ds W post ex => ∃ (j : Rl) (g : Nat → D), ds = [rowsO g j] ∧ W = [] ∧ RwsA j ∧ (∀ p ∈ j, Opd (g p.1) p.2) ∧ j.length ≤ 60 ∧ (rlErr j = none → post .non []) ∧ ∀ s, rlErr j = some s → ∀ d, ex 33 d [(d, .xd ["part"] [.str s])]
def S_initXO : FX := fun ds W post ex => ∃ (x : Addr) (j : Rl) (g : Nat → D), ds = [.adr x, rowsO g j] ∧ W = [(x, .ins 3 [] [])] ∧ RwsA j ∧ (∀ p ∈ j, Opd (g p.1) p.2) ∧ j.length ≤ 60 ∧
  (rlErr j = none → post .non [(x, .ins 3 rlNames [rowsZ j, .dct ((rlPs j).map (·.1)) ((rlPs j).map (·.2))])]) ∧ ∀ s, rlErr j = some s → ∀ d, ex 33 d [(d, .xd ["part"] [.str s]), (x, .ins 3 [] [])]
def S_changeO : FX := fun ds W post ex => ∃ (p q : Addr) (r : Rl) (as ls : List Rl) (l : Rl) (g : Nat → D), ds = [.adr p, .adr q] ∧ W = [(p, deO r as ls), (q, .dp (tabO g l))] ∧ (l.map (·.1)).Nodup ∧ l.length < 60 ∧ RwsA (srtR l) ∧ (∀ p ∈ srtR l, Opd (g p.1) p.2) ∧ as.length < 1000 ∧
  (rlErr (srtR l) = none → post .non [(p, deO (srtR l) (as ++ [r]) [])]) ∧ ∀ s, rlErr (srtR l) = some s → ∀ d x, ex 33 d [(d, .xd ["part"] [.str s]), (x, .ins 3 [] []), (p, deO r as ls)]
def frmV (d : D) : Prop := (∃ f, d = .fm f) ∨ txtV d
def isCapD : D → Bool
  | .vl (.str s) => isCap s
  | _ => false
def isFrmD : D → Bool
  | .fm _ => true
  | .vl (.str s) => isLet s
  | _ => false
def isRuleB (m d : D) : Bool := isCapD m && isFrmD d
def S_isruleN : FS := fun ds W post => ∃ m d : D, ds = [.tup [m, d]] ∧ W = [] ∧ ((∃ (c : Nat) (f : Fm), m = .str (sg c) ∧ 65 ≤ c ∧ c ≤ 90 ∧ Opd d f ∧ post (.bl true) []) ∨ (txtV m ∧ frmV d ∧ isRuleB m d = false ∧ post (.bl false) []))
theorem isCap_of {x : Str} (h : isCap x = true) : ∃ c, x = sg c ∧ 65 ≤ c ∧ c ≤ 90 := by
  unfold isCap at h
  rw [Bool.and_eq_true, decide_eq_true_iff] at h
  obtain ⟨c, rfl, hc⟩ := isLet_of h.1
  have := h.2 c (by rw [lets_sg1]; exact List.mem_cons_self)
  exact ⟨c, rfl, by omega, this⟩
theorem isCapD_not {m : D} (h : notStr m) : isCapD m = false := by cases h <;> rfl
theorem isFrmD_not {m : D} (h : notStr m) : isFrmD m = false := by cases h <;> rfl
theorem rule_or {m d : D} (hm : txtV m) (hd : frmV d) : (∃ (c : Nat) (f : Fm), m = .str (sg c) ∧ 65 ≤ c ∧ c ≤ 90 ∧ Opd d f) ∨ isRuleB m d = false := by
  cases e : isRuleB m d with
  | false => exact .inr rfl
  | true =>
    left
    unfold isRuleB at e
    rw [Bool.and_eq_true] at e
    obtain ⟨e1, e2⟩ := e
    rcases hm with ⟨x, rfl, _⟩ | hn
    · obtain ⟨c, rfl, h1, h2⟩ := isCap_of e1
      rcases hd with ⟨f, rfl⟩ | ⟨y, rfl, _⟩ | hn
      · exact ⟨c, f, rfl, h1, h2, .inl rfl⟩
      · obtain ⟨b, rfl, hb⟩ := isLet_of (show isLet y = true from e2)
        exact ⟨c, .at b, rfl, h1, h2, .inr ⟨b, hb, rfl, rfl⟩⟩
      · rw [isFrmD_not hn] at e2
        cases e2
    · rw [isCapD_not hn] at e1
      cases e1
def S_layDe : FX := fun ds W post ex => ∃ (p : Addr) (r : Rl) (as ls : List Rl) (m d : D), ds = [.adr p, m, d] ∧ W = [(p, deO r as ls)] ∧ rlOk r ∧ txtV m ∧ frmV d ∧ (∀ f, d = .fm f → f.okF) ∧ as.length < 1000 ∧
  (∀ c f, m = .str (sg c) → 65 ≤ c → c ≤ 90 → Opd d f → (rlErr (srtR (putN r c f)) = none → post .non [(p, deO (srtR (putN r c f)) (as ++ [r]) [])]) ∧ ∀ s, rlErr (srtR (putN r c f)) = some s → ∀ e x, ex 33 e [(e, .xd ["part"] [.str s]), (x, .ins 3 [] []), (p, deO r as ls)]) ∧
  (isRuleB m d = false → ∀ e, ex 33 e [(e, .xd ["part"] [.tup [m, d]]), (p, deO r as ls)])
def dropN (l : Rl) (c : Nat) : Rl := l.filter fun p => decide (p.1 ≠ c)
def S_takeDe : FX := fun ds W post ex => ∃ (p : Addr) (r : Rl) (as ls : List Rl) (m : D), ds = [.adr p, m] ∧ W = [(p, deO r as ls)] ∧ rlOk r ∧ txtV m ∧ as.length < 1000 ∧
  (∀ c, m = .str (sg c) → c ∈ r.map (·.1) → (rlErr (dropN r c) = none → post .non [(p, deO (dropN r c) (as ++ [r]) [])]) ∧ ∀ s, rlErr (dropN r c) = some s → ∀ e x, ex 33 e [(e, .xd ["part"] [.str s]), (x, .ins 3 [] []), (p, deO r as ls)]) ∧
  ((∀ x ∈ r, m ≠ .str (sg x.1)) → ∀ e, ex 34 e [(e, .xd ["mark"] [m]), (p, deO r as ls)])
theorem put_rws {r : Rl} {c : Nat} {f : Fm} (h : rlOk r) (h1 : 65 ≤ c) (h2 : c ≤ 90) (hf : f.okF) : RwsA (srtR (putN r c f)) := by
  have from_ : ∀ p ∈ srtR (putN r c f), p ∈ r ∨ p = (c, f) := fun p hp => by
    have e := srtR_look hp
    rw [lookN_put] at e
    by_cases hc : p.1 = c
    · rw [if_pos hc] at e
      right
      exact Prod.ext hc (Option.some.inj e).symm
    · rw [if_neg hc] at e
      exact .inl (lookN_mem (c := p.1) (f := p.2) e)
  refine ⟨srtR_asc _, fun p hp => ?_, fun p hp => ?_⟩
  · rcases from_ p hp with h3 | rfl
    · exact h.cap p h3
    · exact ⟨h1, h2⟩
  · rcases from_ p hp with h3 | rfl
    · exact h.form p h3
    · exact hf
theorem drop_asc {r : Rl} {c : Nat} (h : (r.map (·.1)).Pairwise (· < ·)) : ((dropN r c).map (·.1)).Pairwise (· < ·) := by
  rw [List.pairwise_map] at h ⊢
  exact h.sublist List.filter_sublist
theorem drop_rws {r : Rl} {c : Nat} (h : rlOk r) : RwsA (dropN r c) :=
  ⟨drop_asc h.asc, fun p hp => h.cap p (List.mem_filter.mp hp).1, fun p hp => h.form p (List.mem_filter.mp hp).1⟩
def S_getDe : FS := fun ds W post => ∃ (p : Addr) (r : Rl) (as ls : List Rl) (x : Nat × Fm), ds = [.adr p, .str (sg x.1)] ∧ W = [(p, deO r as ls)] ∧ rlOk r ∧ x ∈ r ∧ post (.fm x.2) [(p, deO r as ls)]
theorem rlOk.nd {r : Rl} (h : rlOk r) : (r.map (·.1)).Nodup := h.asc.imp (S := (· ≠ ·)) fun h => Nat.ne_of_lt h
theorem rl_tab {r : Rl} (h : rlOk r) : mergeG (rlPs r) = tabO (gF r) r := (rlPs_mergeA h.rws).trans (tabL_O h.nd)
theorem rowsZ_ps (r : Rl) : rowsZ r = .tupz ((rlPs r).map fun p => .tup [kD p.1, p.2]) := congrArg D.tupz (rlPs_pairs r).symm
theorem gF_opd {r : Rl} (h : rlOk r) {p : Nat × Fm} (hp : p ∈ r) : Opd (gF r p.1) p.2 := by
  unfold gF
  rw [lookN_of (f := p.2) h.nd hp]
  exact .inl rfl
theorem put_opd {r : Rl} (h : rlOk r) {c : Nat} {f : Fm} {d : D} (hd : Opd d f) {p : Nat × Fm} (hp : p ∈ srtR (putN r c f)) : Opd ((fun x => if x = c then d else gF r x) p.1) p.2 := by
  have e := srtR_look hp
  rw [lookN_put] at e
  dsimp only
  by_cases hc : p.1 = c
  · rw [if_pos hc] at e ⊢
    rw [← Option.some.inj e]
    exact hd
  · rw [if_neg hc] at e ⊢
    exact gF_opd h (lookN_mem (c := p.1) (f := p.2) e)
theorem put_len {r : Rl} (h : rlOk r) (c : Nat) (f : Fm) : (putN r c f).length < 60 := by
  have := putN_len r c f
  have := h.few
  omega
theorem drop_srt {r : Rl} (h : rlOk r) (c : Nat) : srtR (dropN r c) = dropN r c := srtR_id (drop_asc h.asc)
theorem drop_opd {r : Rl} (h : rlOk r) {c : Nat} {p : Nat × Fm} (hp : p ∈ dropN r c) : Opd (gF r p.1) p.2 := gF_opd h (List.mem_filter.mp hp).1
theorem drop_len {r : Rl} (h : rlOk r) (c : Nat) : (dropN r c).length < 60 := by
  have : (dropN r c).length ≤ r.length := List.length_filter_le _ _
  have := h.few
  omega
theorem dropN_step {r : Rl} {i : Nat} {x : Nat × Fm} (h : r[i]? = some x) (c : Nat) : dropN (r.take (i + 1)) c = if x.1 = c then dropN (r.take i) c else dropN (r.take i) c ++ [x] := by
  unfold dropN
  rw [List.take_add_one, h, List.filter_append]
  show _ ++ List.filter _ [x] = _
  by_cases e : x.1 = c
  · rw [if_pos e, List.filter_cons, if_neg (by simp [e])]
    simp
  · rw [if_neg e, List.filter_cons, if_pos (by simp [e])]
    simp
theorem put_fresh {g : Nat → D} {l : Rl} {x : Nat × Fm} (h : x.1 ∉ l.map (·.1)) : putG (tabO g l) (Sum.inr (sg x.1)) (g x.1) = tabO g (l ++ [x]) := by
  unfold putG tabO
  rw [List.any_map]
  have e : ((fun q : Key × D => decide (q.1 = Sum.inr (sg x.1))) ∘ fun p : Nat × Fm => ((Sum.inr (sg p.1) : Key), g p.1)) = fun p => decide (p.1 = x.1) := funext fun p => decide_eq_decide.mpr key_sg
  rw [e, if_neg (fun z => h (any_key.mp z)), List.map_append]
  rfl
theorem drop_fresh {r : Rl} (nd : (r.map (·.1)).Nodup) {i : Nat} {x : Nat × Fm} (h : r[i]? = some x) (c : Nat) : x.1 ∉ (dropN (r.take i) c).map (·.1) := by
  intro hm
  obtain ⟨y, hy, e⟩ := List.mem_map.mp hm
  obtain ⟨j, hj⟩ := List.getElem?_of_mem (List.mem_filter.mp hy).1
  obtain ⟨hj2, hj3⟩ := List.getElem?_eq_some_iff.mp hj
  rw [List.length_take] at hj2
  have hj4 : r[j]? = some y := by rw [List.getElem?_take] at hj; rw [if_pos (by omega)] at hj; exact hj
  have e1 : (r.map (·.1))[j]? = some x.1 := by rw [List.getElem?_map, hj4]; exact congrArg some e
  have e2 : (r.map (·.1))[i]? = some x.1 := by rw [List.getElem?_map, h]; rfl
  have : j = i := (List.getElem?_inj (List.getElem?_eq_some_iff.mp e1).1 nd).mp (e1.trans e2.symm)
  omega
theorem getG_tabO_none {g : Nat → D} {l : Rl} {c : Nat} (h : c ∉ l.map (·.1)) : getG (tabO g l) (Sum.inr (sg c)) = none := by
  unfold getG tabO
  rw [List.find?_map, Option.map_map, Option.map_eq_none_iff, List.find?_eq_none]
  intro p hp e
  exact h (List.mem_map.mpr ⟨p, hp, key_sg.mp (of_decide_eq_true e)⟩)
theorem sg_ne {a b : Nat} (h : a ≠ b) : sg a ≠ sg b := fun e => h (sg_inj e)
end N
set_option Elab.async false
set_option linter.all false
set_option maxRecDepth 100000
set_option maxHeartbeats 1000000
namespace N
open PySem PySem.Spec PyProof.Rows L2
def rEqT0 (K : PySem.W.Frag) : R2 := fun x y H Q => ∃ (a b : Addr) (xs : List V), x = .ref a ∧ y = .ref b ∧ SqT K H a xs ∧ SqT K H b [] ∧ Q (.bl xs.isEmpty) H
theorem op_eqT0 {X : Cx} (hu : X.A.units + 64 < cLine) : OpR X (compareOp .Eq) (rEqT0 X.K) := by
  intro pins s σ H x y v u Q I rx ry h
  obtain ⟨a, b, xs, rfl, rfl, ha, hb, q⟩ := h
  cases rx
  cases ry
  obtain ⟨its, r1, p1, _⟩ := I.tuple ha
  obtain ⟨its2, r2, p2, _⟩ := I.tuple hb
  cases r2
  refine PySem.SeqAt.eq_tupleAt (e := fun _ => true) p1 p2 (by omega) (fun j _ (h2 : j < 0) => absurd h2 (Nat.not_lt_zero _)) ⟨.bl xs.isEmpty, H, I, ?_, q⟩
  cases r1 <;> rfl
section
variable {F : FmKit} {T : Kx} {C H H' O O' : Hp} {G : Gm} {W W' : Om} {R : D → Om → Prop} {d e : D} {l m : List D} {te : TE}
theorem bo_eqT0 (r : R (.bl l.isEmpty) W) : Bo F T (rEqT0 T.K) (.tup l) (.tup []) W R := fun C H O di oc ow x y hx hy Q k => by
  obtain ⟨a, xs, ea, ha, ka⟩ := hx
  obtain ⟨b, ys, eb, hb, kb⟩ := hy
  have kb : ys = [] := kb
  subst kb
  refine ⟨a, b, xs, ea, eb, Same.sqT di.same ha, Same.sqT di.same hb, ?_⟩
  have e : xs.isEmpty = l.isEmpty := by
    have := ka.len
    cases l <;> cases xs <;> simp at this ⊢
  rw [e]
  exact k _ W H O _ r (.refl di oc ow) rfl
end
end N
set_option Elab.async false
set_option linter.all false
set_option maxRecDepth 100000
set_option maxHeartbeats 1000000
namespace N
open PySem PySem.Spec PyProof.Rows L2
theorem atI_snoc {α : Type} (l : List α) (x : α) : atI (l ++ [x]) (-1) = some x := by
  unfold atI ixN
  simp only [List.length_append, List.length_cons, List.length_nil]
  rw [if_neg (by decide), if_pos (by omega)]
  show (l ++ [x])[_]? = _
  rw [show (-1 + ((l.length + (0 + 1) : Nat) : Int)).toNat = l.length from by omega]
  simp
theorem cutD_snoc (l : List D) (x : D) : cutD (l ++ [x]) none (some (-1)) = l := by
  rw [cutD_init]
  simp
theorem tupR_snoc (l : List Rl) (r : Rl) : tupR (l ++ [r]) = .tup (l.map rlD ++ [rlD r]) := by unfold tupR; rw [List.map_append]; rfl
def S_undoDe : FX := fun ds W post ex => ∃ (p : Addr) (r : Rl) (as ls : List Rl), ds = [.adr p] ∧ W = [(p, deO r as ls)] ∧ ls.length < 1000 ∧ (as = [] → ex 100 0 [(p, deO r as ls)]) ∧ ∀ bs q, as = bs ++ [q] → post .non [(p, deO q bs (ls ++ [r]))]
def S_redoDe : FX := fun ds W post ex => ∃ (p : Addr) (r : Rl) (as ls : List Rl), ds = [.adr p] ∧ W = [(p, deO r as ls)] ∧ as.length < 1000 ∧ (ls = [] → ex 101 0 [(p, deO r as ls)]) ∧ ∀ bs q, ls = bs ++ [q] → post .non [(p, deO q (as ++ [r]) bs)]
/-- Desk(rules=..) -/
def S_initDeX : FX := fun ds W post _ => S_initDe ds W post
theorem ev_ofX {F : FmKit} {T : Kx} {G : Gm} {W : Om} {R : D → Om → Prop} {te : TE} {W0 : WX} (h : EvX F T W0 te G W R fun _ _ _ _ => False) : Ev F T te G W R := fun C H O σ w Q q => h C H O σ w (fun _ _ _ _ _ _ _ z => z.elim) Q q
end N
set_option Elab.async false
set_option linter.all false
set_option maxRecDepth 100000
set_option Elab.async false
set_option linter.all false
set_option maxRecDepth 100000
set_option maxHeartbeats 1000000
namespace N
open PySem PySem.Spec PyProof.Rows L2
inductive Lf where
  | non | bl (b : Bool) | int (i : Int) | str (s : Str) | dct
def lfD : Lf → D
  | .non => .non
  | .bl b => .bl b
  | .int i => .int i
  | .str s => .str s
  | .dct => .dct [] []
def lfP : Lf → PyData
  | .non => .none
  | .bl b => .bool b
  | .int i => .int i
  | .str s => .str s
  | .dct => .dict []
def leafP : PyData → Bool
  | .none => true
  | .bool _ => true
  | .int i => decide (i.natAbs ≤ 9)
  | .str s => decide (s.length ≤ 5) && (lets s).all fun c => decide (c < 128)
  | .dict l => l.isEmpty
  | _ => false
/-- what is shown: nesting below n, two items at most -/
def ShOk : Nat → D → Prop
  | 0, _ => False
  | _ + 1, .fm f => f.okF ∧ f.many ≤ 12
  | n + 1, .tup l => l.length ≤ 2 ∧ ∀ x ∈ l, ShOk n x
  | n + 1, .lst l => l.length ≤ 2 ∧ ∀ x ∈ l, ShOk n x
  | _ + 1, d => ∃ x, d = lfD x ∧ leafP (lfP x) = true
structure FrsW (l : Rl) : Prop where
  nd : (l.map (·.1)).Nodup
  key : ∀ p ∈ l, p.1 ∈ lets ("PQRSA" : Str)
  ok : ∀ p ∈ l, p.2.okL
  sm : ∀ p ∈ l, p.2.many ≤ 12
theorem key_cap {c : Nat} (h : c ∈ lets ("PQRSA" : Str)) : 65 ≤ c ∧ c ≤ 83 :=
  (by decide +kernel : ∀ c ∈ lets ("PQRSA" : Str), 65 ≤ c ∧ c ≤ 83) c h
theorem FrsW.few {l : Rl} (h : FrsW l) : l.length ≤ 5 := by
  have h1 := List.Nodup.length_le_of_subset h.nd (l₂ := lets ("PQRSA" : Str)) fun x hx => by
    obtain ⟨p, hp, rfl⟩ := List.mem_map.mp hx
    exact h.key p hp
  rw [List.length_map] at h1
  exact h1
theorem FrsW.okF {l : Rl} (h : FrsW l) {p : Nat × Fm} (hp : p ∈ l) : p.2.okF := okF_many (h.ok p hp) (Nat.le_trans (h.sm p hp) (by decide))
theorem FrsW.ht {l : Rl} (h : FrsW l) {p : Nat × Fm} (hp : p ∈ l) : p.2.ht < 20 := by
  have := Fm.ht_many p.2
  have := h.sm p hp
  omega
theorem FrsW.rws {l : Rl} (h : FrsW l) : RwsA (srtR l) :=
  ⟨srtR_asc _, fun p hp => by have := key_cap (h.key p (srtR_mem hp)); omega, fun p hp => h.okF (srtR_mem hp)⟩
structure FrsOk (l : Rl) : Prop extends FrsW l where
  err : rlErr (srtR l) = none
theorem FrsOk.rl {l : Rl} (h : FrsOk l) : rlOk (srtR l) := rlErr_ok h.rws h.err
theorem FrsOk.len {l : Rl} (h : FrsOk l) : 1 ≤ l.length ∧ l.length ≤ 4 := by
  have h1 := h.rl.few
  have h2 := List.length_pos_iff.mpr h.rl.some_
  rw [srtR_len h.nd] at h1 h2
  omega
theorem FrsW.put {l : Rl} (h : FrsW l) {c : Nat} {f : Fm} (hc : c ∈ lets ("PQRSA" : Str)) (hf : f.okL) (hm : f.many ≤ 12) : FrsW (putN l c f) := by
  have from_ : ∀ p ∈ putN l c f, p ∈ l ∨ p = (c, f) := fun p hp => by
    have e := lookN_of (f := p.2) (putN_nd (c := c) (f := f) h.nd) hp
    rw [lookN_put] at e
    by_cases hc : p.1 = c
    · rw [if_pos hc] at e
      right
      exact Prod.ext hc (Option.some.inj e).symm
    · rw [if_neg hc] at e
      exact .inl (lookN_mem (c := p.1) (f := p.2) e)
  refine ⟨putN_nd h.nd, fun p hp => ?_, fun p hp => ?_, fun p hp => ?_⟩
  · rcases from_ p hp with h1 | rfl
    · exact h.key p h1
    · exact hc
  · rcases from_ p hp with h1 | rfl
    · exact h.ok p h1
    · exact hf
  · rcases from_ p hp with h1 | rfl
    · exact h.sm p h1
    · exact hm
theorem put_srt {l : Rl} (nd : (l.map (·.1)).Nodup) (c : Nat) (f : Fm) : srtR (putN (srtR l) c f) = srtR (putN l c f) := by
  have hk : ∀ d, d ∈ (srtR l).map (·.1) ↔ d ∈ l.map (·.1) := fun d => by rw [srtR_keys]; exact mem_ascN
  refine srtR_ext (fun d => ?_) fun d => ?_
  · rw [mem_putN, mem_putN, hk]
  · rw [lookN_put, lookN_put]
    split
    · rfl
    · cases e : lookN l d with
      | none => exact lookN_none.mpr fun h => lookN_none.mp e ((hk d).mp h)
      | some g => exact lookN_of (srtR_nd l) (mem_srtR nd (lookN_mem e))
theorem lookN_drop (l : Rl) (c d : Nat) : lookN (dropN l c) d = if d = c then none else lookN l d := by
  unfold dropN
  induction l with
  | nil => split <;> rfl
  | cons p l ih =>
    rw [List.filter_cons]
    by_cases h : p.1 = c
    · rw [if_neg (by simp [h]), ih, lookN_cons]
      by_cases e : d = c
      · rw [if_pos e, if_pos e]
      · rw [if_neg e, if_neg e, if_neg (fun z => e (z.symm.trans h))]
    · rw [if_pos (by simp [h]), lookN_cons, lookN_cons, ih]
      by_cases e : p.1 = d
      · rw [if_pos e, if_pos e, if_neg (fun z => h (e.trans z))]
      · rw [if_neg e, if_neg e]
theorem mem_drop {l : Rl} {c d : Nat} : d ∈ (dropN l c).map (·.1) ↔ d ∈ l.map (·.1) ∧ d ≠ c := by
  unfold dropN
  constructor
  · intro h
    obtain ⟨p, hp, rfl⟩ := List.mem_map.mp h
    obtain ⟨h1, h2⟩ := List.mem_filter.mp hp
    exact ⟨List.mem_map.mpr ⟨p, h1, rfl⟩, of_decide_eq_true h2⟩
  · rintro ⟨h1, h2⟩
    obtain ⟨p, hp, rfl⟩ := List.mem_map.mp h1
    exact List.mem_map.mpr ⟨p, List.mem_filter.mpr ⟨hp, decide_eq_true h2⟩, rfl⟩
theorem drop_nd {l : Rl} (nd : (l.map (·.1)).Nodup) (c : Nat) : ((dropN l c).map (·.1)).Nodup := by
  unfold dropN
  exact nd.sublist (List.filter_sublist.map _)
theorem drop_srt2 {l : Rl} (nd : (l.map (·.1)).Nodup) (c : Nat) : dropN (srtR l) c = srtR (dropN l c) := by
  have hk : ∀ d, d ∈ (srtR l).map (·.1) ↔ d ∈ l.map (·.1) := fun d => by rw [srtR_keys]; exact mem_ascN
  rw [← srtR_id (drop_asc (srtR_asc l))]
  refine srtR_ext (fun d => ?_) fun d => ?_
  · rw [mem_drop, mem_drop, hk]
  · rw [lookN_drop, lookN_drop]
    split
    · rfl
    · cases e : lookN l d with
      | none => exact lookN_none.mpr fun h => lookN_none.mp e ((hk d).mp h)
      | some g => exact lookN_of (srtR_nd l) (mem_srtR nd (lookN_mem e))
theorem FrsW.drop {l : Rl} (h : FrsW l) (c : Nat) : FrsW (dropN l c) :=
  ⟨drop_nd h.nd c, fun p hp => h.key p (List.mem_filter.mp hp).1, fun p hp => h.ok p (List.mem_filter.mp hp).1, fun p hp => h.sm p (List.mem_filter.mp hp).1⟩
theorem drop_dct (l : Rl) (c : Nat) : ((l.map fun p => (decide (p.1 ≠ c), D.tup [.str (sg p.1), p.2.trC])).filter (·.1)).map (·.2) = (dropN l c).map fun p => D.tup [.str (sg p.1), p.2.trC] := by
  unfold dropN
  exact flt_tab (q := fun p : Nat × Fm => decide (p.1 ≠ c)) (f := fun p => D.tup [.str (sg p.1), p.2.trC]) l
theorem cut_marks : ∀ n ∈ [1, 2, 3, 4], lets (cutS ("PQRS" : Str) none (some ((n : Nat) : Int))) = (lets ("PQRS" : Str)).take n := by decide +kernel
theorem argR_rows (j : Rl) : [rowsR j] = [argR (j.map fun p => (p.1, D.fm p.2, p.2))] := by
  show [D.tup _] = [D.tup (List.map _ (List.map _ _))]
  rw [List.map_map]
  rfl
theorem rsOf_rows (j : Rl) : rsOf (j.map fun p => (p.1, D.fm p.2, p.2)) = j := by
  unfold rsOf
  rw [List.map_map]
  exact List.map_id _
theorem begun_ok {l : Rl} {n : Nat} (hn : n ∈ [1, 2, 3, 4]) (hk : l.map (·.1) = (lets ("PQRS" : Str)).take n) (hf : ∀ x ∈ l, x.2.okL ∧ x.2.many ≤ 10 ∧ ∀ c ∈ lets x.2.outer, 97 ≤ c) : FrsOk l := by
  have hkey : ∀ c ∈ l.map (·.1), c ∈ lets ("PQRSA" : Str) := fun c hc => by
    rw [hk] at hc
    exact (by decide +kernel : ∀ c ∈ lets ("PQRS" : Str), c ∈ lets ("PQRSA" : Str)) c (List.mem_of_mem_take hc)
  have hnd : (l.map (·.1)).Nodup := by
    rw [hk]
    exact (by decide +kernel : (lets ("PQRS" : Str)).Nodup).sublist (List.take_sublist _ _)
  have hlen : l.length = n := by
    have := congrArg List.length hk
    rw [List.length_map, List.length_take, show (lets ("PQRS" : Str)).length = 4 from by decide +kernel] at this
    simp only [List.mem_cons, List.not_mem_nil, or_false] at hn
    omega
  have w : FrsW l := ⟨hnd, fun p hp => hkey _ (List.mem_map.mpr ⟨p, hp, rfl⟩), fun p hp => (hf p hp).1, fun p hp => Nat.le_trans (hf p hp).2.1 (by decide)⟩
  refine { w with err := ?_ }
  have hs := srtR_len hnd
  simp only [List.mem_cons, List.not_mem_nil, or_false] at hn
  unfold rlErr
  rw [if_neg (by omega), Option.map_eq_none_iff, List.find?_eq_none]
  intro p hp e
  unfold bentR at e
  obtain ⟨d, hd, e⟩ := List.any_eq_true.mp e
  have e := of_decide_eq_true e
  rw [srtR_keys, mem_ascN] at e
  have h1 := key_cap (hkey d e)
  have h2 := (hf p (srtR_mem hp)).2.2 d hd
  omega
def S_rowsC : FS := fun ds W post => ∃ l : Rl, ds = [dctC l] ∧ W = [] ∧ FrsW l ∧ post (rowsR (srtR l)) []
def S_begunC : FS := fun ds W post => ∃ (a : Addr) (c : Int), ds = [.adr a] ∧ DkC a c W ∧ c + 1000 < 2 ^ 59 ∧ ∀ (p : Addr) (l : Rl) (Wd : Om), FrsOk l → DkC a (c + 100) Wd → post (.tup [.adr p, dctC l]) ((p, deO (srtR l) [] []) :: Wd)
def S_isshown : FS := fun ds W post => ∃ (p : Addr) (l : Rl) (as ls : List Rl), ds = [.adr p, dctC l] ∧ W = [(p, deO (srtR l) as ls)] ∧ FrsOk l ∧ post (.bl true) [(p, deO (srtR l) as ls)]
def odds49 : List D := [.non, .int 7, .str "", .str "ab", .lst [], .tup [.str "P"], .bl true, .dct [] [], .str "all P"]
def S_valueC : FS := fun ds W post => ∃ (a : Addr) (c : Int) (p : Str), ds = [.adr a, .str p] ∧ DkC a c W ∧ letters p ∧ p.length ≤ 100 ∧ c + 1000 < 2 ^ 59 ∧
  (∀ z ∈ odds49, ∀ W', DkC a (c + 50) W' → post (.tup [.non, z]) W') ∧ ∀ f d W', Opd d f → f.okL → f.many ≤ 12 → DkC a (c + 50) W' → post (.tup [f.trC, d]) W'
end N
set_option Elab.async false
set_option linter.all false
set_option maxRecDepth 100000
set_option maxHeartbeats 1000000
namespace N
open PySem PySem.Spec PyProof.Rows L2
theorem sh_str {n : Nat} {s : Str} (h : leafP (.str s) = true) : ShOk (n + 1) (.str s) := ⟨.str s, rfl, h⟩
theorem sh_P (n : Nat) : ShOk (n + 2) (.tup [.str "P"]) := ⟨Nat.le_succ 1, fun x hx => by
  rw [List.mem_singleton] at hx
  subst hx
  exact sh_str (by decide +kernel)⟩
theorem odds_ok : ∀ z ∈ odds49, frmV z ∧ isFrmD z = false ∧ ∀ n, ShOk (n + 2) z := by
  intro z hz
  simp only [odds49, List.mem_cons, List.not_mem_nil, or_false] at hz
  rcases hz with rfl | rfl | rfl | rfl | rfl | rfl | rfl | rfl | rfl
  · exact ⟨.inr (.inr .non), rfl, fun n => ⟨.non, rfl, rfl⟩⟩
  · exact ⟨.inr (.inr (.int 7)), rfl, fun n => ⟨.int 7, rfl, rfl⟩⟩
  · exact ⟨.inr (.inl ⟨"", rfl, by decide⟩), by decide +kernel, fun n => sh_str (by decide +kernel)⟩
  · exact ⟨.inr (.inl ⟨"ab", rfl, by decide⟩), by decide +kernel, fun n => sh_str (by decide +kernel)⟩
  · exact ⟨.inr (.inr (.lst [])), rfl, fun n => ⟨Nat.zero_le 2, fun x hx => nomatch hx⟩⟩
  · exact ⟨.inr (.inr (.tup _)), rfl, sh_P⟩
  · exact ⟨.inr (.inr (.bl true)), rfl, fun n => ⟨.bl true, rfl, rfl⟩⟩
  · exact ⟨.inr (.inr (.dct _ _)), rfl, fun n => ⟨.dct, rfl, rfl⟩⟩
  · exact ⟨.inr (.inl ⟨"all P", rfl, by decide⟩), by decide +kernel, fun n => sh_str (by decide +kernel)⟩
theorem opd_frm {d : D} {f : Fm} (h : Opd d f) : frmV d ∧ isFrmD d = true := by
  rcases h with rfl | ⟨c, hc, rfl, rfl⟩
  · exact ⟨.inl ⟨f, rfl⟩, rfl⟩
  · exact ⟨.inr (.inl ⟨_, rfl, Nat.le_of_ble_eq_true rfl⟩), by show isLet (sg c) = true; rw [isLet_sg, decide_eq_true hc]⟩
theorem dct_put {l : Rl} (nd : (l.map (·.1)).Nodup) (c : Nat) (f : Fm) : mergeG (frmC l ++ [((Sum.inr (sg c) : Key), f.trC)]) = frmC (putN l c f) := mergeG_tab (ts := [(c, f)]) Fm.trC nd
theorem opd_inj {d : D} {f g : Fm} (h1 : Opd d f) (h2 : Opd d g) : f = g := by
  rcases h1 with rfl | ⟨x, _, rfl, rfl⟩
  · rcases h2 with e | ⟨y, _, e, _⟩
    · exact D.fm.inj e
    · cases e
  · rcases h2 with e | ⟨y, _, e, rfl⟩
    · cases e
    · rw [sg_inj (V.str.inj (D.vl.inj e))]
end N
set_option Elab.async false
set_option linter.all false
set_option maxRecDepth 100000
set_option maxHeartbeats 1000000
namespace N
open PySem PySem.Spec PyProof.Rows L2
theorem cr_dictPK {X : Cx} {K : PySem.W.Frag} (hK : X.K = K) (hcalm : X.calm = true) : CallR X (.type "dict") (rDictP K) := hK ▸ cr_dictP hcalm
section
variable {F : FmKit} {T : Kx} {G : Gm} {W : Om} {R : D → Om → Prop} {ta : TE} {E : En} {ts tz : TS}
theorem sw_mid5 (I : Gm → Om → Prop) (h : Sw F T ts G W { E with nx := I }) (k : ∀ G' W', I G' W' → Sw F T tz G' W' E) : Sw F T (tSeq ts tz) G W E :=
  sw_seq (h.imp k (fun _ _ h => h) (fun _ _ h => h) (fun _ _ h => h))
theorem dct_not {H : Hp} {ks : List Key} {l : List D} {u : V} (k : Den F T H (.dct ks l) u) : decide (u = .non) = false := by
  obtain ⟨a, kvs, e, _⟩ := k
  subst e
  rfl
theorem ev_notDct (h : Ev F T ta G W fun d W1 => ∃ ks l, d = .dct ks l ∧ R (.bl true) W1) : Ev F T (tNotN ta) G W R := ev_notN (h.imp fun d W1 ⟨ks, l, e, r⟩ => ⟨false, fun H u k => by
  subst e
  exact dct_not k, r⟩)
end
theorem cutD_last (l : List D) (x : D) : cutD (l ++ [x]) (some (-1)) none = [x] := by
  unfold cutD
  rw [show HT.sIx (l ++ [x]).length (l ++ [x]).length none = (l ++ [x]).length from rfl]
  have e : HT.sIx (l ++ [x]).length 0 (some (-1)) = l.length := by
    show (if (-1 : Int) < 0 then (-1 + ((l ++ [x]).length : Int)).toNat else min (-1 : Int).toNat (l ++ [x]).length) = _
    rw [if_pos (by decide), List.length_append]
    simp
    omega
  rw [e]
  simp
theorem cutD_nil1 : cutD [] (some (-1)) none = [] := by unfold cutD; simp
theorem cutD_nil2 : cutD [] none (some (-1)) = [] := by unfold cutD; simp
abbrev dctsC (L : List Rl) : List D := L.map dctC
theorem dctsC_snoc (L : List Rl) (l : Rl) : dctsC (L ++ [l]) = dctsC L ++ [dctC l] := by unfold dctsC; rw [List.map_append]; rfl
/-- a tree and what is passed for it, or nothing and what is no formula -/
def GoodV (t d : D) : Prop := (∃ f, t = f.trC ∧ Opd d f ∧ f.okL ∧ f.many ≤ 12) ∨ (t = .non ∧ d ∈ odds49)
theorem perm_b1 {α : Type} (x y : α) (l : List α) : ([x, y] ++ l).Perm ((y :: l) ++ [x]) := by
  show (x :: (y :: l)).Perm _
  exact List.perm_append_comm (l₁ := [x])
theorem perm_b2 {α : Type} (x y z : α) (l : List α) : ([x, y, z] ++ l).Perm ((z :: l) ++ [x, y]) := by
  show ([x, y] ++ (z :: l)).Perm _
  exact List.perm_append_comm
theorem snoc_inj5 {α : Type} {a b : List α} {x y : α} (h : a ++ [x] = b ++ [y]) : b = a ∧ y = x := by
  obtain ⟨h1, h2⟩ := List.append_inj' h rfl
  exact ⟨h1.symm, ((List.cons.inj h2).1).symm⟩
theorem srs_snoc (L : List Rl) (l : Rl) : (L ++ [l]).map srtR = L.map srtR ++ [srtR l] := by rw [List.map_append]; rfl
theorem no_snoc {α : Type} {b : List α} {y : α} (h : [] = b ++ [y]) : False := by
  have := congrArg List.length h
  simp at this
theorem snoc_no {α : Type} {b : List α} {y : α} (h : b ++ [y] = []) : False := no_snoc h.symm
def S_backC : FS := fun ds W post => ∃ (p : Addr) (r : Rl) (as ls : List Rl) (b : Bool), ds = [.adr p, .bl b] ∧ W = [(p, deO r as ls)] ∧ as.length < 1000 ∧ ls.length < 1000 ∧
  (b = false → (as = [] → post (.bl false) [(p, deO r as ls)]) ∧ ∀ bs q, as = bs ++ [q] → post (.bl true) [(p, deO q bs (ls ++ [r]))]) ∧
  (b = true → (ls = [] → post (.bl false) [(p, deO r as ls)]) ∧ ∀ bs q, ls = bs ++ [q] → post (.bl true) [(p, deO q (as ++ [r]) bs)])
def S_changedC : FS := fun ds W post => ∃ (a : Addr) (c : Int) (p : Addr) (l : Rl) (as ls : List Rl) (Wd : Om), ds = [.adr a, .adr p, dctC l] ∧ W = (p, deO (srtR l) as ls) :: Wd ∧ DkC a c Wd ∧ FrsOk l ∧ as.length < 900 ∧ c + 3000 < 2 ^ 59 ∧
  (∀ W', DkC a (c + 100) W' → post .non ((p, deO (srtR l) as ls) :: W')) ∧ ∀ l' W', FrsOk l' → DkC a (c + 100) W' → post (dctC l') ((p, deO (srtR l') (as ++ [srtR l]) []) :: W')
def S_turnedC : FS := fun ds W post => ∃ (A B : List D) (x : D) (b : Bool), ds = [.lst (A ++ [x]), .lst B, .bl b] ∧ W = [] ∧ A.length + B.length < 1000 ∧
  (b = true → (B = [] → post (.tup [.lst (A ++ [x]), .lst []]) []) ∧ ∀ C z, B = C ++ [z] → post (.tup [.lst ((A ++ [x]) ++ [z]), .lst C]) []) ∧
  (b = false → (A = [] → post (.tup [.lst (A ++ [x]), .lst B]) []) ∧ (A ≠ [] → post (.tup [.lst A, .lst (B ++ [x])]) []))
/-- the desk and the two rows of a run: all before l, l now, L later -/
structure Stk (A : List Rl) (l : Rl) (L : List Rl) : Prop where
  a : ∀ x ∈ A, FrsOk x
  l : FrsOk l
  b : ∀ x ∈ L, FrsOk x
def S_allC : FS := fun ds W post => ∃ (p : Addr) (A : List Rl) (l : Rl) (L : List Rl), ds = [.adr p, .lst (dctsC A ++ [dctC l]), .lst (dctsC L)] ∧ W = [(p, deO (srtR l) (A.map srtR) (L.map srtR))] ∧ Stk A l L ∧ A.length + L.length < 900 ∧
  ∀ r as ls, post (.bl true) [(p, deO r as ls)]
def S_right50 : FS := fun ds W post => ∃ (a : Addr) (c : Int), ds = [.adr a] ∧ DkC a c W ∧ c + 20000 < 2 ^ 59 ∧ ∀ x W', DkC a (c + 5000) W' → post (.bl true) (x :: W')
def S_farC : FS := fun ds W post => ∃ a : Addr, ds = [.adr a] ∧ ∀ W', post (.bl true) W'
end N
set_option Elab.async false
set_option linter.all false
set_option maxRecDepth 100000
set_option maxHeartbeats 1000000
namespace N
open PySem PySem.Spec PyProof.Rows L2
def lotF (j : Nat) : Fm := .all (.at (match j with | 0 => 97 | 1 => 98 | 2 => 99 | _ => 80))
def farK (i : Nat) : Nat := if i % 2 = 0 then 80 else 81
def far : Nat → Rl
  | 0 => [(80, .at 97)]
  | i + 1 => srtR (putN (far i) (farK i) (lotF (i / 2 % 4)))
def fars : List Fm := [.at 97, lotF 0, lotF 1, lotF 2, lotF 3]
theorem lotF_mem (i : Nat) : lotF (i / 2 % 4) ∈ fars := by
  have h : i / 2 % 4 < 4 := Nat.mod_lt _ (by decide)
  generalize i / 2 % 4 = j at h ⊢
  match j, h with
  | 0, _ => simp [fars]
  | 1, _ => simp [fars]
  | 2, _ => simp [fars]
  | 3, _ => simp [fars]
def FarOk (b : Bool) (l : Rl) : Prop := ∃ f ∈ fars, (b = false ∧ l = [(80, f)]) ∨ (∃ g ∈ fars, l = [(80, f), (81, g)])
theorem far_put {b : Bool} {l : Rl} (h : FarOk b l) {c : Nat} (hc : c = 80 ∨ c = 81) {f : Fm} (hf : f ∈ fars) : FarOk (b || decide (c = 81)) (srtR (putN l c f)) ∧ srtR (putN l c f) = putN l c f := by
  have e : srtR (putN l c f) = putN l c f := by
    refine srtR_id ?_
    obtain ⟨f0, h0, ⟨_, rfl⟩ | ⟨g0, h1, rfl⟩⟩ := h
    · rcases hc with rfl | rfl <;> simp [putN]
    · rcases hc with rfl | rfl <;> simp [putN]
  refine ⟨?_, e⟩
  rw [e]
  obtain ⟨f0, h0, ⟨rfl, rfl⟩ | ⟨g0, h1, rfl⟩⟩ := h
  · rcases hc with rfl | rfl
    · exact ⟨f, hf, .inl ⟨by decide, by simp [putN]⟩⟩
    · exact ⟨f0, h0, .inr ⟨f, hf, by simp [putN]⟩⟩
  · rcases hc with rfl | rfl
    · exact ⟨f, hf, .inr ⟨g0, h1, by simp [putN]⟩⟩
    · exact ⟨f0, h0, .inr ⟨f, hf, by simp [putN]⟩⟩
theorem farK_or (i : Nat) : farK i = 80 ∨ farK i = 81 := by unfold farK; split <;> simp
theorem far_ok : ∀ i, FarOk (decide (2 ≤ i)) (far i)
  | 0 => ⟨.at 97, by simp [fars], .inl ⟨rfl, rfl⟩⟩
  | i + 1 => by
    have h := (far_put (far_ok i) (farK_or i) (lotF_mem i)).1
    have e : far (i + 1) = srtR (putN (far i) (farK i) (lotF (i / 2 % 4))) := rfl
    rw [e]
    by_cases h2 : 2 ≤ i + 1
    · rw [decide_eq_true h2]
      rcases Nat.lt_or_ge i 2 with h3 | h3
      · obtain rfl : i = 1 := by omega
        exact h
      · rw [decide_eq_true h3, Bool.true_or] at h
        exact h
    · obtain rfl : i = 0 := by omega
      exact h
theorem fars_ok : ∀ f ∈ fars, f.okF := by
  intro f hf
  refine okF_many ?_ ?_
  · simp only [fars, List.mem_cons, List.not_mem_nil, or_false] at hf
    rcases hf with rfl | rfl | rfl | rfl | rfl <;> (simp only [lotF, Fm.okL]; omega)
  · simp only [fars, List.mem_cons, List.not_mem_nil, or_false] at hf
    rcases hf with rfl | rfl | rfl | rfl | rfl <;> decide
theorem far_err1 : ∀ f ∈ fars, rlErr [(80, f)] = none := by decide +kernel
theorem far_err2 : ∀ f ∈ fars, ∀ g ∈ fars, rlErr [(80, f), (81, g)] = none := by decide +kernel
theorem FarOk.rws {b : Bool} {l : Rl} (h : FarOk b l) : RwsA l ∧ rlErr l = none := by
  obtain ⟨f, hf, ⟨_, rfl⟩ | ⟨g, hg, rfl⟩⟩ := h
  · refine ⟨⟨by simp, fun p hp => ?_, fun p hp => ?_⟩, far_err1 f hf⟩
    · simp only [List.mem_cons, List.not_mem_nil, or_false] at hp
      subst hp
      simp
    · simp only [List.mem_cons, List.not_mem_nil, or_false] at hp
      subst hp
      exact fars_ok f hf
  · refine ⟨⟨by simp, fun p hp => ?_, fun p hp => ?_⟩, far_err2 f hf g hg⟩
    · simp only [List.mem_cons, List.not_mem_nil, or_false] at hp
      rcases hp with rfl | rfl <;> simp
    · simp only [List.mem_cons, List.not_mem_nil, or_false] at hp
      rcases hp with rfl | rfl
      · exact fars_ok f hf
      · exact fars_ok g hg
theorem far_rl (i : Nat) : rlOk (far i) := rlErr_ok (far_ok i).rws.1 (far_ok i).rws.2
theorem far_err (i : Nat) : rlErr (far i) = none := (far_ok i).rws.2
theorem far_len : (far 300).length = 2 := by
  obtain ⟨f, hf, ⟨h, _⟩ | ⟨g, hg, e⟩⟩ := far_ok 300
  · cases h
  · rw [e]; rfl
/-- what is ahead after i changes; what is later when only the first n stand -/
def farA (i : Nat) : List Rl := (List.range i).map far
def farL (n : Nat) : List Rl := (List.range (300 - n)).map fun t => far (300 - t)
theorem farA_succ (i : Nat) : farA (i + 1) = farA i ++ [far i] := by
  unfold farA
  rw [List.range_succ, List.map_append]
  rfl
theorem farL_step {n : Nat} (h : n < 300) : farL n = farL (n + 1) ++ [far (n + 1)] := by
  unfold farL
  rw [show 300 - n = (300 - (n + 1)) + 1 from by omega, List.range_succ, List.map_append]
  show _ ++ [far (300 - (300 - (n + 1)))] = _
  rw [show 300 - (300 - (n + 1)) = n + 1 from by omega]
theorem farA_len (i : Nat) : (farA i).length = i := by unfold farA; simp
theorem farL_len (n : Nat) : (farL n).length = 300 - n := by unfold farL; simp
abbrev lotD : List D := ([97, 98, 99, 80] : List Nat).map fun u => .fm (.all (.at u))
theorem lot_at (i : Nat) : atI lotD (((0 : Int) + (i : Nat)) / 2 % 4) = some (.fm (lotF (i / 2 % 4))) := by
  rw [show ((0 : Int) + (i : Nat)) / 2 % 4 = ((i / 2 % 4 : Nat) : Int) from by omega]
  have h : i / 2 % 4 < 4 := Nat.mod_lt _ (by decide)
  generalize i / 2 % 4 = j at h ⊢
  match j, h with
  | 0, _ => rfl
  | 1, _ => rfl
  | 2, _ => rfl
  | 3, _ => rfl
theorem pq_at (i : Nat) : atI [D.str "P", D.str "Q"] (((0 : Int) + (i : Nat)) % 2) = some (.str (sg (farK i))) := by
  rw [show ((0 : Int) + (i : Nat)) % 2 = ((i % 2 : Nat) : Int) from by omega]
  unfold farK
  have h : i % 2 < 2 := Nat.mod_lt _ (by decide)
  generalize i % 2 = j at h ⊢
  match j, h with
  | 0, _ => rfl
  | 1, _ => rfl
theorem lotF_okF (i : Nat) : (lotF (i / 2 % 4)).okF := fars_ok _ (lotF_mem i)
end N
set_option Elab.async false
set_option linter.all false
set_option maxRecDepth 100000
set_option maxHeartbeats 2000000
namespace N
open PySem PySem.Spec PyProof.Rows L2
theorem isVal_ok {K : Fg} {C : Addr} {m : Str} {u : Value} (h : isVal K C m u = true) : PySem.W.findCls K (.ref C) (.type "type") m = some (.val u) := by
  unfold isVal at h
  cases e : PySem.W.findCls K (.ref C) (.type "type") m with
  | none => rw [e] at h; cases h
  | some z =>
    rw [e] at h
    cases z with
    | val v =>
      have h : decide (v = u) = true := h
      rw [of_decide_eq_true h]
    | get g a o t => cases h
theorem isStrG_ok {K : Fg} {x z : Str} (h : isStrG K x z = true) : ∃ t, PySem.W.nsIn K mainGlobals x = some (some (.str z t)) := by
  unfold isStrG at h
  split at h
  · rename_i y t e
    have := of_decide_eq_true h
    subst this
    exact ⟨t, e⟩
  · cases h
theorem isIntIn_ok {K : Fg} {d : Addr} {x : Str} {i : Int} (h : isIntIn K d x i = true) : ∃ t, PySem.W.nsIn K d x = some (some (.int i t)) := by
  unfold isIntIn at h
  split at h
  · rename_i y t e
    have := of_decide_eq_true h
    subst this
    exact ⟨t, e⟩
  · cases h
theorem isExc_ok {K : Fg} {C CW : Addr} (h : isExc K C CW = true) : ∃ nm q N bs sn sub ab col dd k0 k1 k2 k3 k5, K.lookup C = some (excClassObj nm q C N bs [.ref CW, .type "Exception", .type "BaseException", .type "object"] true sn sub ab col dd k0 k1 k2 k3 k5 "Exception.__new__") := by
  unfold isExc at h
  split at h
  · rename_i c dd cd sl e
    obtain ⟨c1, c2, c3, c4, c5, c6, c7, c8, c9, c10, c11⟩ := cd
    obtain ⟨sl⟩ := sl
    simp only [Bool.and_eq_true, decide_eq_true_eq, Bool.not_eq_true'] at h
    obtain ⟨h1, h2, h3, h4, h5⟩ := h
    subst h1 h2 h3 h4
    split at h5
    · rename_i k0 k1 k2 k3 v k5 es
      have h5 := of_decide_eq_true h5
      subst h5
      exact ⟨_, _, _, _, _, _, _, _, _, _, _, _, _, _, e⟩
    · cases h5
  · cases h
theorem keysLit {P : Params} : ∀ {l : List DictEntry} {ks : List Str}, (l.all fun e => match e.key with
    | .str _ _ => true
    | _ => false) = true → (l.map fun e => match e.key with
    | .str x _ => (x, e.hash)
    | _ => (("" : Str), 0)) = ks.map (fun k => (k, PyData.keyHash P k)) → PySem.W.KeysLit P l
  | [], _, _, _ => trivial
  | e :: l, [], _, h => by cases h
  | e :: l, k :: ks, ha, h => by
    rw [List.all_cons, Bool.and_eq_true] at ha
    rw [List.map_cons, List.map_cons] at h
    obtain ⟨h1, h2⟩ := List.cons.inj h
    refine ⟨?_, keysLit ha.2 h2⟩
    have ha1 := ha.1
    split at ha1
    · rename_i x t ek
      rw [ek] at h1
      have h1 : (x, e.hash) = (k, PyData.keyHash P k) := h1
      obtain ⟨h3, h4⟩ := Prod.mk.inj h1
      subst h3
      exact ⟨x, t, ek, h4⟩
    · cases ha1
theorem isDic_ok {K : Fg} {d : Addr} {P : Params} {ks : List Str} (h : isDic K d = true) (hk : keysY K d = ks.map fun k => (k, PyData.keyHash P k)) : ∃ es n, K.lookup d = some ⟨.type "dict", none, .dict es n, #[]⟩ ∧ PySem.W.KeysLit P es.toList := by
  unfold isDic at h
  unfold keysY at hk
  split at h
  · rename_i c es n sl e
    rw [e] at hk
    simp only [Bool.and_eq_true, decide_eq_true_eq] at h
    obtain ⟨h1, h2, h3⟩ := h
    subst h1
    obtain ⟨sl⟩ := sl
    have h2 : sl = [] := List.isEmpty_iff.mp h2
    subst h2
    exact ⟨es, n, e, keysLit h3 hk⟩
  · cases h
theorem isNon_ok {v : Value} (h : isNon v = true) : v = .none := by
  cases v <;> first | rfl | cases h
theorem DefT.get {K : Fg} {d : DefT} (e : fnY K (d.at_ K) = d.val) (c : d.ok K = true) : ∃ oc od osl dV kV doc pm an cdv ct, K.lookup (d.at_ K) = some ⟨oc, od, .func (PySem.W.fnOf d.name d.qual (defArgs d.st) (defBody d.st) (defScope d.st) dV kV doc pm an cdv ct), osl⟩ ∧ PySem.W.codeIn K cdv d.qual = true ∧
    (match d.dn with
    | false => isNon dV
    | true => nonSeq K dV) = true ∧ PySem.W.keepIn K (.ref (d.at_ K)) = true := by
  obtain ⟨kp, c2⟩ := Bool.and_eq_true_iff.mp c
  unfold fnY at e
  cases q : K.lookup (d.at_ K) with
  | none =>
    rw [q] at c2
    cases c2
  | some o =>
    obtain ⟨oc, od, dt, osl⟩ := o
    rw [q] at c2 e
    cases dt with
    | func fd =>
      obtain ⟨n1, n2, n3, n4, n5, n6, n7, n8, n9, n10, n11, n12, n13, n14, n15⟩ := fd
      have e2 : (some (n1, n2, n3, n4, n5, n6, n7, n15) : He.FnW) = some (d.name, d.qual, defArgs d.st, .stmts (defBody d.st), defScope d.st, mainGlobals, [], builtinsNs) := e
      simp only [Option.some.injEq, Prod.mk.injEq] at e2
      obtain ⟨h1, h2, h3, h4, h5, h6, h7, h8⟩ := e2
      obtain ⟨c3, c4⟩ := Bool.and_eq_true_iff.mp (show (PySem.W.codeIn K n13 d.qual && (match d.dn with
    | false => isNon n8
    | true => nonSeq K n8)) = true from c2)
      subst h1 h2 h3 h4 h5 h6 h7 h8
      exact ⟨oc, od, osl, n8, n9, n10, n11, n12, n13, n14, rfl, c3, c4, kp⟩
    | _ => cases c2
theorem DefT.fun_ {K : Fg} {d : DefT} (e : fnY K (d.at_ K) = d.val) (c : d.ok K = true) (hd : d.dn = false) : ∃ fd, Fun K d.name d.qual d.st (d.at_ K) fd := by
  obtain ⟨oc, od, osl, dV, kV, doc, pm, an, cdv, ct, l, cc, dn, kp⟩ := d.get e c
  rw [hd] at dn
  obtain rfl := isNon_ok dn
  exact ⟨_, fun_mk l cc kp⟩
section
variable {ts : List (Fg → Bool)} {fn : List DefT} {dk : List DicT} {w : World} {K : Fg}
theorem SaysT.test (c : SaysT ts fn dk w K) (i : Nat) {t : Fg → Bool} (h : ts[i]? = some t := by rfl) : t K = true := by
  have c1 := (Bool.and_eq_true_iff.mp (show ((ts.all fun t => t K) && (fn.all fun d => d.ok K)) = true from congrArg (fun z : AlT => z.1) c)).1
  exact List.all_eq_true.mp c1 t (List.mem_of_getElem? h)
theorem SaysT.def_ (c : SaysT ts fn dk w K) (i : Nat) {d : DefT} (h : fn[i]? = some d) : fnY K (d.at_ K) = d.val ∧ d.ok K = true := by
  have c2 := (Bool.and_eq_true_iff.mp (show ((ts.all fun t => t K) && (fn.all fun d => d.ok K)) = true from congrArg (fun z : AlT => z.1) c)).2
  have e : fn.map (fun d => fnY K (d.at_ K)) = fn.map DefT.val := congrArg (fun z : AlT => z.2.1) c
  have e2 : (fn.map fun d => fnY K (d.at_ K))[i]? = (fn.map DefT.val)[i]? := by rw [e]
  rw [List.getElem?_map, List.getElem?_map, h] at e2
  exact ⟨Option.some.inj e2, List.all_eq_true.mp c2 d (List.mem_of_getElem? h)⟩
theorem SaysT.fun_ (c : SaysT ts fn dk w K) (i : Nat) {d : DefT} (h : fn[i]? = some d := by rfl) (hd : d.dn = false := by rfl) : ∃ fd, Fun K d.name d.qual d.st (d.at_ K) fd := DefT.fun_ (c.def_ i h).1 (c.def_ i h).2 hd
theorem SaysT.dic (c : SaysT ts fn dk w K) (i : Nat) {d : DicT} (h : dk[i]? = some d := by rfl) (hs : isDic K (d.at_ K) = true) : ∃ es n, K.lookup (d.at_ K) = some ⟨.type "dict", none, .dict es n, #[]⟩ ∧ PySem.W.KeysLit w.params es.toList := by
  have e : dk.map (fun d => keysY K (d.at_ K)) = dk.map fun d => d.keys.map fun k => (k, PyData.keyHash w.params k) := congrArg (fun z : AlT => z.2.2) c
  have e2 : (dk.map fun d => keysY K (d.at_ K))[i]? = (dk.map fun d => d.keys.map fun k => (k, PyData.keyHash w.params k))[i]? := by rw [e]
  rw [List.getElem?_map, List.getElem?_map, h] at e2
  exact isDic_ok hs (Option.some.inj e2)
end
theorem walkT {l : PySem.W.OpenLaw} {n k : Nat} {q : Program} {loose : List Str} {XP : (Str → Option Value) → Heap → Prop} {YP : World → Heap → Prop} {Sy : World → Fg → Prop} {d : DefRec} {sp : Fg → Sp}
    (hn : l.most = some n) (hn2 : n ≤ sizeLine) (hdf : d.params.defaults = []) (hr : Room k callerA) (hY : ∀ (w : World) (h : Heap), YP w h → ∃ K : Fg, K.In h ∧ Sy w K)
    (Fn : ∀ (w : World) (mg : Str → Option Value) (fa : Addr) (h : Heap) (K : Fg), K.In h → Sy w K → h.Ns mainGlobals mg → mg d.name = some (.ref fa) → ∀ base : Heap, K.In base → base.Ns mainGlobals mg → FnG l.prog w K mg base k fa (sp K))
    (hsp : ∀ (K : Fg) (H : Hp) (a : Addr) (ns : List Int), ns.length ≤ n → Only H → SqL K H a (ns.map V.int) → sp K [.ref a] H (fun v _ => v = .bl true) E0) :
    PySem.W.WalkO q loose XP YP l.row.toRowW d [] (fun f vs => PySem.call f vs) := by
  refine Att.attach_call hn hdf fun w s0 s1 mg mb fa o pm cd doc a vs ns G Y ho hd hcd hmg hobj hints hlen hg => ?_
  obtain ⟨K, KX, sy⟩ := hY w _ Y
  exact lawG KX G.T.g G.T.b G.T.builtins G.T.nolimit hg hobj hints (Nat.le_trans hlen hn2) hr (Fn w mg fa _ K KX sy G.T.g hmg) fun H hO hS => hsp K H a ns hlen hO hS
end N
set_option Elab.async false
set_option linter.all false
set_option maxRecDepth 100000
namespace N
open PySem PySem.Spec PyProof.Rows L2
open C8 (Cal Met Mak InsC pe_c pe_mt pe_mt0 pe_mk)
set_option maxHeartbeats 4000000
local macro_rules | `(tactic| walk_at "vl") => `(tactic| first | exact .inl (.inl rfl) | exact .inr ⟨_, rfl, List.mem_cons_self⟩ | exact .inr ⟨_, rfl, List.mem_cons_of_mem _ List.mem_cons_self⟩ | exact .inr ⟨_, rfl, List.mem_cons_of_mem _ (List.mem_cons_of_mem _ List.mem_cons_self)⟩ | exact .inr ⟨_, rfl, List.mem_cons_of_mem _ (List.mem_cons_of_mem _ (List.mem_cons_of_mem _ List.mem_cons_self))⟩ | exact .inl (.inr ⟨_, rfl, rfl⟩))
local macro_rules | `(tactic| walk_at "vt") => `(tactic| first | exact .inl rfl | exact .inr ⟨_, rfl, List.mem_cons_self⟩ | exact .inr ⟨_, rfl, List.mem_cons_of_mem _ List.mem_cons_self⟩ | exact .inr ⟨_, rfl, List.mem_cons_of_mem _ (List.mem_cons_of_mem _ List.mem_cons_self)⟩ | exact .inr ⟨_, rfl, List.mem_cons_of_mem _ (List.mem_cons_of_mem _ (List.mem_cons_of_mem _ List.mem_cons_self))⟩)
local macro_rules | `(tactic| walk_at "vd") => `(tactic| first | exact .inl rfl | exact .inr ⟨_, rfl, List.mem_cons_self⟩ | exact .inr ⟨_, rfl, List.mem_cons_of_mem _ List.mem_cons_self⟩ | exact .inr ⟨_, rfl, List.mem_cons_of_mem _ (List.mem_cons_of_mem _ List.mem_cons_self)⟩ | exact .inr ⟨_, rfl, List.mem_cons_of_mem _ (List.mem_cons_of_mem _ (List.mem_cons_of_mem _ List.mem_cons_self))⟩)
local macro_rules | `(tactic| walk_at "gg") => `(tactic| first | exact getG_hd _ _ _ | (refine getG_tl (by decide +kernel) ?_; walk_at "gg"))
local macro_rules | `(tactic| walk_at "vs") => `(tactic| first | exact .inr rfl | (refine .inl ?_; walk_at "vl"))
local macro_rules | `(tactic| walk_at "nc") => `(tactic| first | omega | (unfold CMul; omega) | (unfold CDiv; omega) | (unfold CPow; decide) | (show (0 : Int) < _; omega))
local macro_rules | `(tactic| walk_at "sx") => `(tactic| first
  | with_reducible refine swx_seq ?_ | with_reducible refine swx_set ?_ | with_reducible refine swx_if ?_ | with_reducible refine swx_asg ?_ | with_reducible refine swx_ret ?_ | with_reducible refine swx_drop ?_ | ((with_reducible refine' swx_raise ?h ?hc); (case hc => exact rfl)) | with_reducible refine swx_next ?_ | with_reducible refine swx_brk ?_ | with_reducible refine swx_cont ?_ | with_reducible refine swx_retN ?_ | with_reducible refine swx_par ?_ | with_reducible refine swx_fld ?_
  | with_reducible refine evx_call ?_ | with_reducible refine evx_cm ?_ | with_reducible refine evx_cmk ?_ | with_reducible refine evx_mk ?_ | with_reducible refine evx_mkk ?_ | with_reducible refine evx_of ?_)
local macro_rules | `(tactic| walk_at "s1") => `(tactic| first
  | with_reducible refine sw_seq ?_ | with_reducible refine sw_set ?_ | (with_reducible refine' ev_var ?h ?_); (case h => rfl) | with_reducible refine ev_c ?_ | with_reducible refine ev_op ?_
  | with_reducible refine bo_I0 ?_ | with_reducible refine ev_tup ?_ | with_reducible refine ev_lstF ?_ | with_reducible refine ev_cb ?_ | with_reducible refine ea_cons ?_ | with_reducible refine ea_nil ?_
  | with_reducible refine bo_eqI ?_ | with_reducible refine bo_neI ?_ | with_reducible refine bo_eqS ?_ | with_reducible refine bo_neS ?_ | with_reducible refine bo_eqB ?_ | with_reducible refine bo_neB ?_
  | with_reducible refine isi_str ?_ | (with_reducible refine' ca_intBt ?h1 ?_); (case h1 => decide +kernel) | (with_reducible refine' ca_intBf ?h1 ?_); (case h1 => decide +kernel) | with_reducible refine ca_intB ?_ | with_reducible refine ca_int ?_ | with_reducible refine ca_max2 ?_ | with_reducible refine ca_min2 ?_
  | with_reducible refine sw_if ?_ | with_reducible refine sw_ret ?_ | with_reducible refine sw_drop ?_ | with_reducible refine sw_setL ?_ | with_reducible refine sw_next ?_ | with_reducible refine sw_par ?_ | with_reducible refine ev_neg ?_ | with_reducible refine ev_mkF ?_ | with_reducible refine ev_inv ?_ | with_reducible refine ev_prpF ?_ | with_reducible refine ta_fld ?_ | with_reducible refine ta_name ?_ | (with_reducible refine' ta_tup ?hl ?_); (case hl => rfl) | with_reducible refine tas_cons ?_ | with_reducible refine tas_nil ?_
  | with_reducible refine et_ifE ?_ | with_reducible refine ev_orV ?_ | with_reducible refine ev_andV ?_ | with_reducible refine ev_notV ?_ | with_reducible refine et_or ?_ | with_reducible refine et_and ?_ | with_reducible refine sw_asgA ?_ | with_reducible refine sw_asg2 ?_ | with_reducible refine sw_asg3 ?_ | with_reducible refine sw_fld ?_ | with_reducible refine et_test ?_ | with_reducible refine et_B ?_ | with_reducible refine ⟨_, rfl, ?_⟩ | with_reducible refine ⟨_, _, rfl, ?_⟩ | with_reducible refine et_not ?_ | with_reducible refine ev_if ?_
  | (with_reducible refine' bo_ixL ?h1 ?h2 ?_); (case h1 => walk_at "vl"); (case h2 => rfl) | (with_reducible refine' bo_ixT ?h2 ?_); (case h2 => rfl) | with_reducible refine ev_call ?_ | ((with_reducible refine' ev_fwF ?hz ?hy ?_); (case hz => assumption); (case hy => assumption)) | (with_reducible refine' ev_fmF ?hz ?_; case hz => assumption) | with_reducible refine ev_fld ?_
  | with_reducible refine .inr ⟨_, _, rfl, FldW.below _, ?_⟩ | with_reducible refine .inr ⟨_, _, rfl, FldW.atoms _, ?_⟩ | with_reducible refine .inr ⟨_, _, rfl, FldW.bens _, ?_⟩ | with_reducible refine .inr ⟨_, _, rfl, FldW.hgts _, ?_⟩
  | with_reducible refine .inl ⟨_, _, rfl, FldF.kind _, ?_⟩ | with_reducible refine .inl ⟨_, _, rfl, FldF.parts _, ?_⟩ | with_reducible refine .inl ⟨_, _, rfl, FldF.many _, ?_⟩ | with_reducible refine .inl ⟨_, _, rfl, FldF.deep _, ?_⟩ | with_reducible refine .inl ⟨_, _, rfl, FldF.atoms _, ?_⟩ | with_reducible refine .inl ⟨_, _, rfl, FldF.bare _, ?_⟩ | with_reducible refine .inl ⟨_, _, rfl, FldF.spell _, ?_⟩ | with_reducible refine .inl ⟨_, _, rfl, FldF.alls _, ?_⟩
  | with_reducible refine ev_meth ?_ | ((with_reducible refine' ⟨_, _, inst_wb _, ?hm, ?_⟩); (case hm => decide +kernel)) | ((with_reducible refine' ⟨_, _, Inst.fm _, ?hm, ?_⟩); (case hm => decide +kernel))
  | with_reducible refine ⟨_, _, rfl, FldF.kind _, ?_⟩ | with_reducible refine ⟨_, _, rfl, FldF.parts _, ?_⟩ | with_reducible refine ⟨_, _, rfl, FldF.many _, ?_⟩ | with_reducible refine ⟨_, _, rfl, FldF.deep _, ?_⟩ | with_reducible refine ⟨_, _, rfl, FldF.atoms _, ?_⟩ | with_reducible refine ⟨_, _, rfl, FldF.bare _, ?_⟩ | with_reducible refine ⟨_, _, rfl, FldF.spell _, ?_⟩ | with_reducible refine ⟨_, _, rfl, FldF.alls _, ?_⟩
  | ((with_reducible refine' ⟨len_ok ?hl, ?_⟩); (case hl => exact Nat.le_of_ble_eq_true rfl))
  | (with_reducible refine' bo_I ?h1 ?_); (case h1 => walk_at "nc")
  | with_reducible refine ev_sl ?_ | with_reducible refine eo_none ?_ | with_reducible refine eo_some ?_ | (with_reducible refine' ca_slF ?h1 ?_); (case h1 => walk_at "vl") | with_reducible refine ev_revF ?_ | with_reducible refine ev_dget ?_ | with_reducible refine sw_dput ?_ | with_reducible refine ev_dispF ?_ | with_reducible refine eps_cons ?_ | with_reducible refine eps_nil ?_ | with_reducible refine exk_str ?_ | with_reducible refine exk_int ?_ | (with_reducible refine' dg_str ?h1 ?h2 ?_); (case h1 => walk_at "vd"); (case h2 => walk_at "gg")
  | with_reducible refine unr_cons ?_ | with_reducible refine unr_nil ?_ | with_reducible refine swu_cons ?_ | with_reducible refine swu_nil ?_ | with_reducible refine et_yes ?_ | with_reducible refine tg_name ?_ | (with_reducible refine' tw_name ?h1 ?_); (case h1 => simp) | ((with_reducible refine' ⟨acc_ok ?h1, ?_⟩); (case h1 => exact Nat.le_of_ble_eq_true rfl)) | with_reducible refine ei_tup ?_ | with_reducible refine ei_list ?_ | with_reducible refine ei_rng1 ?_
  | with_reducible refine ca_strF ?_ | with_reducible refine ca_lenF ?_ | with_reducible refine isi_tup ?_ | with_reducible refine isi_int ?_ | with_reducible refine isi_intB ?_ | with_reducible refine et_chain ?_ | with_reducible refine ev_chain ?_ | (with_reducible refine' isi_fm ?hz ?_; case hz => assumption)
  | (with_reducible refine' ca_len ?h1 ?_); (case h1 => walk_at "vs")
  | (with_reducible refine' if_so ?h1 ?_); (case h1 => first | rfl | decide +kernel) | (with_reducible refine' if_not ?h1 ?_); (case h1 => first | rfl | decide +kernel))
local macro_rules | `(tactic| walk_at "st") => `(tactic| repeat first | walk_at "s1" | walk_at "sx")
section
def top (i : Nat) : Stmt := PySem.Challenge.pw_allbeneath_k50_undone_and_made_again.main.body.getD i (.Pass ⟨0, 0, 0, 0⟩)
/-- what the module has written -/
structure ZZ (K : PySem.W.Frag) (w : World) (mg : Str → Option Value) (cl : Nat → Addr) where
  g_LETTERS : ∃ u, mg "LETTERS" = some u ∧ RelV (.str "ABCDEFGHIJKLMNOPQRSTUVWXYZabcdefghijklmnopqrstuvwxyz") u
  g_ATOM : ∃ u, mg "ATOM" = some u ∧ RelV (.str "atom") u
  g_NO : ∃ u, mg "NO" = some u ∧ RelV (.str "no") u
  g_IF : ∃ u, mg "IF" = some u ∧ RelV (.str "if") u
  g_ALL : ∃ u, mg "ALL" = some u ∧ RelV (.str "all") u
  d_PARTS_OF : Addr
  e_PARTS_OF : Array DictEntry
  n_PARTS_OF : Nat
  g_PARTS_OF : mg "PARTS_OF" = some (.ref d_PARTS_OF)
  t_PARTS_OF : KDict K w d_PARTS_OF e_PARTS_OF n_PARTS_OF
  k_PARTS_OF_atom : ∃ t, PySem.W.nsIn K d_PARTS_OF "atom" = some (some (.int 1 t))
  k_PARTS_OF_no : ∃ t, PySem.W.nsIn K d_PARTS_OF "no" = some (some (.int 0 t))
  k_PARTS_OF_if : ∃ t, PySem.W.nsIn K d_PARTS_OF "if" = some (some (.int 2 t))
  k_PARTS_OF_all : ∃ t, PySem.W.nsIn K d_PARTS_OF "all" = some (some (.int 1 t))
  g_ALL_AHEAD : ∃ u, mg "ALL_AHEAD" = some u ∧ RelV (.str "all ") u
  g_BETWEEN : ∃ u, mg "BETWEEN" = some u ∧ RelV (.str " > ") u
  g_MOST_MARKS : ∃ u, mg "MOST_MARKS" = some u ∧ RelV (.int 4) u
  g_PAIR_PARTS : ∃ u, mg "PAIR_PARTS" = some u ∧ RelV (.int 2) u
  g_CAPITALS : ∃ u, mg "CAPITALS" = some u ∧ RelV (.str "ABCDEFGHIJKLMNOPQRSTUVWXYZ") u
  g_ROWS : ∃ u, mg "ROWS" = some u ∧ RelV (.str "rows") u
  g_ORDER : ∃ u, mg "ORDER" = some u ∧ RelV (.str "order") u
  g_Formula : mg "Formula" = some (.ref (cl 0))
  z0 : CZ K (cl 0) fmNames
  y0 : NeC K (cl 0)
  q0 : NotC K (cl 0)
  g_Rules : mg "Rules" = some (.ref (cl 3))
  z3 : CZ K (cl 3) rlNames
  g_Desk : mg "Desk" = some (.ref (cl 4))
  z4 : CZ K (cl 4) deNames
  nq4 : PySem.W.noSeq K (cl 4) = true
  g_BadRules : mg "BadRules" = some (.ref (cl 33))
  x33 : ErC K (cl 33) "part"
  g_UnknownMark : mg "UnknownMark" = some (.ref (cl 34))
  x34 : ErC K (cl 34) "mark"
  g_NothingToUndo : mg "NothingToUndo" = some (.ref (cl 100))
  r100 : Er0 K mg "NothingToUndo" (cl 100)
  g_NothingToRedo : mg "NothingToRedo" = some (.ref (cl 101))
  r101 : Er0 K mg "NothingToRedo" (cl 101)
  v33_33 : PySem.W.exmOne K (.ref (cl 33)) (.ref (cl 33)) = some true
  v34_34 : PySem.W.exmOne K (.ref (cl 34)) (.ref (cl 34)) = some true
  v34_33 : PySem.W.exmOne K (.ref (cl 34)) (.ref (cl 33)) = some false
  v100_100 : PySem.W.exmOne K (.ref (cl 100)) (.ref (cl 100)) = some true
  v101_100 : PySem.W.exmOne K (.ref (cl 101)) (.ref (cl 100)) = some false
  v101_101 : PySem.W.exmOne K (.ref (cl 101)) (.ref (cl 101)) = some true
  g_WebError : mg "WebError" = some (.ref (cl 40))
  i33_40 : PySem.W.kitOne K (.ref (cl 33)) (.ref (cl 40)) = some true
  i34_40 : PySem.W.kitOne K (.ref (cl 34)) (.ref (cl 40)) = some true
  i100_40 : PySem.W.kitOne K (.ref (cl 100)) (.ref (cl 40)) = some true
  i101_40 : PySem.W.kitOne K (.ref (cl 101)) (.ref (cl 40)) = some true
  t3_tuple : PySem.W.kitOne K (.ref (cl 3)) (.type "tuple") = some false
  ec33 : ExcC K (cl 33)
  ec34 : ExcC K (cl 34)
  ec100 : ExcC K (cl 100)
  ec101 : ExcC K (cl 101)
abbrev s_united : Stmt := top 20
theorem sc_united : FnScope ["one", "other"] ["one", "other"] (defScope s_united) := ⟨rfl, rfl, rfl, by decide +kernel, rfl, by decide +kernel, by decide +kernel⟩
theorem c_united {P : Program} {w : World} {K : PySem.W.Frag} {mg : Str → Option Value} {base : Heap} {cl : Nat → Addr} {f : Addr} {fd : FuncData} (hm : mg "united" = some (.ref f)) (B : Blt mg) (Z : ZZ K w mg cl) (Fn : Fun K "united" "united" s_united f fd) : Cal P w K mg base 1 "united" (spN FK ⟨K, cl⟩ S_united) [] := by
  have fz := Z.z0
  refine calD hm Fn sc_united (by intro ds W post h; first | (obtain ⟨rfl, _⟩ := h; rfl) | (obtain ⟨_, rfl, _⟩ := h; rfl) | (obtain ⟨_, _, rfl, _⟩ := h; rfl) | (obtain ⟨_, _, _, rfl, _⟩ := h; rfl) | (obtain ⟨_, _, _, _, rfl, _⟩ := h; rfl) | (obtain ⟨_, _, _, _, _, rfl, _⟩ := h; rfl) | (obtain ⟨_, _, _, _, _, _, rfl, _⟩ := h; rfl) | (obtain ⟨_, _, _, _, _, _, _, rfl, _⟩ := h; rfl) | (obtain ⟨_, _, _, _, _, _, _, _, rfl, _⟩ := h; rfl) | (obtain ⟨_, _, _, _, _, _, _, _, _, rfl, _⟩ := h; rfl) | (obtain ⟨_, _, _, _, _, _, _, _, _, _, rfl, _⟩ := h; rfl) | (obtain ⟨_, _, _, _, _, _, _, _, _, _, _, rfl, _⟩ := h; rfl)) (fun _ _ _ _ _ _ us hl => match us, hl with | [_, _], _ => rfl) fun cdv A outer s H E hr => ⟨_, pss_one (ps_ret (pe_ifExp (pt_cmpR op_eq (pv 0) (pv 1) (nomark _)) (pv 0) (pe_join pe_str (pe_callB (cr_sortedT rfl) (by rfl) B.sorted bt_sorted (pa_cons (pe_callTy (cr_setT rfl) (by rfl) B.set bt_set (pa_cons (pe_op op_add_str (pv 0) (pv 1)) pa_nil)) pa_nil))))), ?_⟩
  rintro ds W post ⟨x, y, rfl, hl, rfl, k⟩
  try dsimp only [cxOf, Cx.nox, Cx.wish]
  walk_at "st"
  refine if_dec (fun e => ?_) (fun e => ?_)
  · walk_at "st"
    show post _ _
    simpa [unite, e] using k
  · have h16 := sizeLine_eq
    walk_at "st"
    refine ev_join ?_
    walk_at "st"
    refine bo_addS (by omega) ?_
    try walk_at "st"
    refine ca_setT (.inr ⟨_, rfl, rfl⟩) (by unfold signs; rw [List.length_map, ← str_len, str_app_len]; omega) fun p c hp hc => ?_
    have hs : (signs (x ++ y)).length = x.length + y.length := by unfold signs; rw [List.length_map, ← str_len, str_app_len]
    walk_at "st"
    refine ca_sortedT (by omega) ⟨ascS (signs (x ++ y)), .inl (.inl (.inl rfl)), ?_, ?_⟩
    · have h1 := ascS_len (signs (x ++ y))
      have h2 : (ascS (signs (x ++ y))).map (·.length) = (ascS (signs (x ++ y))).map fun _ => 1 := List.map_congr_left fun z hz => by
        obtain ⟨c, _, e⟩ := List.mem_map.mp (mem_ascS.mp hz)
        subst e
        rfl
      rw [h2, List.map_const', List.sum_replicate_nat]
      show _ * 1 + _ * 0 ≤ _
      omega
    · have e1 : signs (x ++ y) = ((lets x ++ lets y)).map sg := by unfold signs; rw [str_app]; rfl
      rw [e1, ascS_sg, join_nil_sg]
      have e2 : unite x y = ⟨((lets x ++ lets y).foldr insN []).toArray⟩ := by unfold unite; rw [if_neg e]
      rw [← e2]
      exact k
abbrev s_merged : Stmt := top 21
theorem sc_merged : FnScope ["one", "other", "formula", "found", "text"] ["one", "other"] (defScope s_merged) := ⟨rfl, rfl, rfl, by decide +kernel, rfl, by decide +kernel, by decide +kernel⟩
theorem c_merged {P : Program} {w : World} {K : PySem.W.Frag} {mg : Str → Option Value} {base : Heap} {cl : Nat → Addr} {f : Addr} {fd : FuncData} (hm : mg "merged" = some (.ref f)) (B : Blt mg) (Z : ZZ K w mg cl) (Fn : Fun K "merged" "merged" s_merged f fd) : Cal P w K mg base 1 "merged" (spN FK ⟨K, cl⟩ S_merged) [] := by
  have fz := Z.z0
  refine calD hm Fn sc_merged (by intro ds W post h; first | (obtain ⟨rfl, _⟩ := h; rfl) | (obtain ⟨_, rfl, _⟩ := h; rfl) | (obtain ⟨_, _, rfl, _⟩ := h; rfl) | (obtain ⟨_, _, _, rfl, _⟩ := h; rfl) | (obtain ⟨_, _, _, _, rfl, _⟩ := h; rfl) | (obtain ⟨_, _, _, _, _, rfl, _⟩ := h; rfl) | (obtain ⟨_, _, _, _, _, _, rfl, _⟩ := h; rfl) | (obtain ⟨_, _, _, _, _, _, _, rfl, _⟩ := h; rfl) | (obtain ⟨_, _, _, _, _, _, _, _, rfl, _⟩ := h; rfl) | (obtain ⟨_, _, _, _, _, _, _, _, _, rfl, _⟩ := h; rfl) | (obtain ⟨_, _, _, _, _, _, _, _, _, _, rfl, _⟩ := h; rfl) | (obtain ⟨_, _, _, _, _, _, _, _, _, _, _, rfl, _⟩ := h; rfl)) (fun _ _ _ _ _ _ us hl => match us, hl with | [_, _], _ => rfl) fun cdv A outer s H E hr => ⟨_, pss_cons (ps_if (PW.pt (pw_or (pt_cmpR op_eq (pe_callB call_len (by rfl) B.len bt_len (pa_cons (pv 0) pa_nil)) pe_int (nomark _)) (pw_or1 (pt_cmpR op_eq (pe_callB call_len (by rfl) B.len bt_len (pa_cons (pv 1) pa_nil)) pe_int (nomark _))))) (pss_one (ps_ret (pe_op op_catA (pv 0) (pv 1)))) (pss_nil))
 (pss_cons (ps_set (i := 3) sc_merged.nd rfl (Or.inr rfl) (pe_dc (own := [("formula", 2)]) (by rfl) sc_merged.nd (pi_tup (pe_op op_catA (pv 0) (pv 1))) (blkOk_by (own := [("formula", 2)]) (N := ["one", "other", "formula", "found", "text"]) (sc := defScope s_merged) (by decide +kernel)) (fun _ _ _ _ _ => (pg_name (i := 2) sc_merged.nd rfl (Or.inl rfl))) (fun _ _ _ _ _ => pts_nil) (fun _ _ _ _ _ => (pe_fldK (K := K) rfl (pv 2) rfl)) (fun _ _ _ _ _ => (pv 2))))
 (pss_one (ps_ret (pe_callTy call_tuple_of (by rfl) B.tuple bt_tuple (pa_cons (pe_lc (own := [("text", 4)]) (by rfl) sc_merged.nd (pi_list (pe_callB (call_sortedD rfl) (by rfl) B.sorted bt_sorted (pa_cons (pv 3) pa_nil))) (blkOk_by (own := [("text", 4)]) (N := ["one", "other", "formula", "found", "text"]) (sc := defScope s_merged) (by decide +kernel)) (fun _ _ _ _ _ => (pg_name (i := 4) sc_merged.nd rfl (Or.inl rfl))) (fun _ _ _ _ _ => pts_nil) (fun _ _ _ _ _ => (pe_dget (by exact hu_of hr) (pv 3) (pv 4) (fun _ _ => rfl)))) pa_nil))))), ?_⟩
  rintro ds W post ⟨e1, e2, rfl, hs, l1, l2, lm, k⟩
  try dsimp only [cxOf, Cx.nox, Cx.wish]
  walk_at "st"
  try refine ca_len (.inr rfl) ?_
  walk_at "st"
  refine if_dec (fun h1 => ?_) (fun h1 => ?_)
  · try refine if_so rfl ?_
    walk_at "st"
    refine bo_catA (by have := sizeLine_eq; simp; omega) ?_
    have e : e1 = [] := by simpa using h1
    subst e
    exact k e2 (by simp [Fm.merge]) (fun p h => by simpa using h)
  · walk_at "st"
    try refine ca_len (.inr rfl) ?_
    walk_at "st"
    refine if_dec (fun h2 => ?_) (fun h2 => ?_)
    · walk_at "st"
      refine bo_catA (by have := sizeLine_eq; simp; omega) ?_
      have e : e2 = [] := by simpa using h2
      subst e
      have e : e1 ≠ [] := by simpa using h1
      refine (show post (.tup (e1.map (·.1) ++ [])) W from ?_)
      rw [List.append_nil]
      exact k e1 (by simp [Fm.merge, e]) (fun p h => by simpa using h)
    · have n1 : e1 ≠ [] := by simpa using h1
      have n2 : e2 ≠ [] := by simpa using h2
      walk_at "st"
      refine ev_dc (ei_tup ?_)
      walk_at "st"
      refine bo_catA (by have := sizeLine_eq; simp; omega) ⟨_, rfl, fun i acc W' => W' = W ∧ ∃ l : List (D × Fm), acc = kvE l ∧ (l.map fun p => p.2.spell).Nodup ∧ (∀ p ∈ l, p ∈ e1 ++ e2) ∧ (∀ p ∈ (e1 ++ e2).take i, p.2 ∈ l.map (·.2)) ∧ l.length ≤ i, ⟨rfl, [], rfl, List.nodup_nil, by simp, by simp, by simp⟩, ?_, ?_⟩
      · rintro i d acc W' hd ⟨rfl, l, rfl, nd, hl, hm, hn⟩
        rw [← List.map_append, List.getElem?_map] at hd
        obtain ⟨p, hp, e⟩ := Option.map_eq_some_iff.mp hd
        subst e
        have hpm : p ∈ e1 ++ e2 := List.mem_of_getElem? hp
        refine tw_name (by simp) (et_yes ?_)
        try refine if_so rfl ?_
        refine ev_spl (g := p.2) Z.z0 ?_
        walk_at "st"
        refine ⟨(hs p hpm).2, ?_⟩
        walk_at "st"
        obtain ⟨l', e, h3, h4, h5, h6⟩ := put_kvE (d := p.1) (fun q hq => (hs q (hl q hq)).1) (hs p hpm).1
        have hi : i < (e1 ++ e2).length := (List.getElem?_eq_some_iff.mp hp).1
        refine ⟨by have := sizeLine_eq; simp at hi ⊢; omega, rfl, l', e, ?_, fun q hq => ?_, fun q hq => ?_, by omega⟩
        · have := putG_nodup (k := Sum.inr p.2.spell) (z := p.1) (ps := kvE l) (by rw [kvE_keys]; exact nd.map Sum.inr (fun a b hab => fun e => hab (Sum.inr.inj e)))
          rw [e, kvE_keys] at this
          exact List.Pairwise.of_map Sum.inr (fun a b h e => h (by rw [e])) this
        · rcases h3 q hq with h | h
          · exact hl q h
          · rw [h]
            exact hpm
        · rw [List.take_add_one, hp] at hq
          rcases List.mem_append.mp hq with h | h
          · exact h4 _ (hm q h)
          · simp at h
            subst h
            exact h5
      · rintro acc W' ⟨rfl, l, rfl, nd, hl, hm, hn⟩ p hp
        have e0 : (e1.map (·.1) ++ e2.map (·.1)).length = (e1 ++ e2).length := by simp
        rw [e0, List.take_length] at hm
        have ms : ∀ x, x ∈ l.map (·.2) ↔ x ∈ e1.map (·.2) ++ e2.map (·.2) := fun x => by
          rw [← List.map_append]
          constructor
          · intro h
            obtain ⟨q, hq, e⟩ := List.mem_map.mp h
            exact List.mem_map.mpr ⟨q, hl q hq, e⟩
          · intro h
            obtain ⟨q, hq, e⟩ := List.mem_map.mp h
            subst e
            exact hm q hq
        have ok2 : ∀ x ∈ e1.map (·.2) ++ e2.map (·.2), x.okL := fun x hx => by
          rw [← List.map_append] at hx
          obtain ⟨q, hq, e⟩ := List.mem_map.mp hx
          subst e
          exact (hs q hq).1
        have nd2 : (l.map (·.2)).Nodup := by
          have : ((l.map (·.2)).map Fm.spell).Nodup := by
            rw [List.map_map]
            exact nd
          exact List.Pairwise.of_map Fm.spell (fun a b h e => h (by rw [e])) this
        walk_at "st"
        refine ev_lc (ei_list ?_)
        walk_at "st"
        refine ca_sortedD (ps := kvE l) (ks := l.map fun p => p.2.spell) (.inr ⟨p, rfl, List.mem_cons_self⟩) (kvE_keys l) ?_ ?_
        · refine Nat.lt_of_le_of_lt ?_ lm
          have := Fm.len_le nd2 (m := Fm.merge (e1.map (·.2)) (e2.map (·.2))) fun x hx => by
            rw [Fm.mem_merge, ← List.mem_append]
            exact (ms x).mp hx
          simpa using this
        · intro ys hp2 hss
          obtain ⟨e', hpe, ey⟩ := perm_map_inv hp2
          subst ey
          refine ⟨_, rfl, fun i acc W2 => acc = (e'.take i).map (·.1) ∧ W2 = (p, .dp (kvE l)) :: W', ⟨by simp, rfl⟩, ?_, ?_⟩
          · rintro i d acc W2 hd ⟨rfl, rfl⟩
            rw [List.map_map, List.getElem?_map] at hd
            obtain ⟨q, hq, e⟩ := Option.map_eq_some_iff.mp hd
            subst e
            have hqm : q ∈ l := hpe.mem_iff.mp (List.mem_of_getElem? hq)
            refine tw_name (by simp) (et_yes ?_)
            try refine if_so rfl ?_
            refine ev_dget ?_
            walk_at "st"
            refine ⟨kvE l, Sum.inr q.2.spell, q.1, .inr ⟨p, rfl, List.mem_cons_self⟩, rfl, getG_kvE hqm nd, ?_, ?_, rfl⟩
            · have h7 := hpe.length_eq
              have := sizeLine_eq
              simp at hn ⊢
              omega
            · rw [List.take_add_one, hq]
              simp
          · rintro acc W2 ⟨rfl, rfl⟩ p2 hp3
            walk_at "st"
            refine ca_drp (ca_tup (.inr ⟨p2, rfl, List.mem_cons_self⟩) ?_)
            refine ⟨W', (List.sublist_cons_self _ _).trans (List.sublist_cons_self _ _), ?_⟩
            have e : (e'.take (List.map D.str (e'.map fun p => p.2.spell)).length) = e' := by simp
            rw [e]
            refine k e' (merge_of (by simpa using n1) (by simpa using n2) ok2 hss (hp2.nodup_iff.mpr nd) fun x => ?_) fun q hq => hl q (hpe.mem_iff.mp hq)
            rw [← ms x]
            exact (hpe.map _).mem_iff
abbrev s_is_atom : Stmt := top 19
theorem sc_is_atom : FnScope ["thing"] ["thing"] (defScope s_is_atom) := ⟨rfl, rfl, rfl, by decide +kernel, rfl, by decide +kernel, by decide +kernel⟩
theorem c_is_atom {P : Program} {w : World} {K : PySem.W.Frag} {mg : Str → Option Value} {base : Heap} {cl : Nat → Addr} {f : Addr} {fd : FuncData} (hm : mg "is_atom" = some (.ref f)) (B : Blt mg) (Z : ZZ K w mg cl) (Fn : Fun K "is_atom" "is_atom" s_is_atom f fd) : Cal P w K mg base 1 "is_atom" (spN FK ⟨K, cl⟩ S_isatomN) [] := by
  have fz := Z.z0
  refine calD hm Fn sc_is_atom (by intro ds W post h; first | (obtain ⟨rfl, _⟩ := h; rfl) | (obtain ⟨_, rfl, _⟩ := h; rfl) | (obtain ⟨_, _, rfl, _⟩ := h; rfl) | (obtain ⟨_, _, _, rfl, _⟩ := h; rfl) | (obtain ⟨_, _, _, _, rfl, _⟩ := h; rfl) | (obtain ⟨_, _, _, _, _, rfl, _⟩ := h; rfl) | (obtain ⟨_, _, _, _, _, _, rfl, _⟩ := h; rfl) | (obtain ⟨_, _, _, _, _, _, _, rfl, _⟩ := h; rfl) | (obtain ⟨_, _, _, _, _, _, _, _, rfl, _⟩ := h; rfl) | (obtain ⟨_, _, _, _, _, _, _, _, _, rfl, _⟩ := h; rfl) | (obtain ⟨_, _, _, _, _, _, _, _, _, _, rfl, _⟩ := h; rfl) | (obtain ⟨_, _, _, _, _, _, _, _, _, _, _, rfl, _⟩ := h; rfl)) (fun _ _ _ _ _ _ us hl => match us, hl with | [_], _ => rfl) fun cdv A outer s H E hr => ⟨_, pss_one (ps_ret (pe_and (pe_callB call_isi (by rfl) B.isinstance bt_isinstance (pa_cons (pv 0) (pa_cons (pe_bltn (by rfl) B.str bt_str (relV_ty _)) pa_nil))) (pe_and (pe_cmpR op_eq (pe_callB call_len (by rfl) B.len bt_len (pa_cons (pv 0) pa_nil)) pe_int (nomark _)) (pe_one (pe_cmpR op_in_sign (pv 0) (C8.pe_gc (by rfl) Z.g_LETTERS) rfl))))), ?_⟩
  rintro ds W post ⟨d, rfl, rfl, ⟨x, rfl, hl, k⟩ | ⟨hn, k⟩⟩
  try dsimp only [cxOf, Cx.nox, Cx.wish]
  · walk_at "st"
    try refine if_so rfl ?_
    walk_at "st"
    refine ca_lenS (by have := sizeLine_eq; omega) ?_
    walk_at "st"
    refine if_dec (fun e => ?_) (fun e => ?_)
    · have e : x.length = 1 := by omega
      obtain ⟨c, rfl⟩ := one_sign e
      walk_at "st"
      refine bo_inSg ?_
      walk_at "st"
      rw [in_letters]
      exact k
    · rw [isLet_long (show x.length ≠ 1 by omega)] at k
      exact k
  · walk_at "st"
    refine isi_notStr hn ?_
    refine ⟨_, rfl, ?_⟩
    refine if_not rfl ?_
    exact k
end
section
theorem kd_facts {P : Program} {w : World} {K : PySem.W.Frag} {mg : Str → Option Value} {cl : Nat → Addr} (Z : ZZ K w mg cl) (f : Fm) : (∃ r, PySem.W.nsIn K Z.d_PARTS_OF f.kind = some (some r)) ∧ KDct K w Z.d_PARTS_OF f.kind (.int ((partsD f).length : Nat)) := by
  cases f with
  | «at» c => obtain ⟨t, h⟩ := Z.k_PARTS_OF_atom; exact ⟨⟨_, h⟩, _, _, _, Z.t_PARTS_OF.at_, Z.t_PARTS_OF.lit, h, t, rfl⟩
  | no => obtain ⟨t, h⟩ := Z.k_PARTS_OF_no; exact ⟨⟨_, h⟩, _, _, _, Z.t_PARTS_OF.at_, Z.t_PARTS_OF.lit, h, t, rfl⟩
  | imp a b => obtain ⟨t, h⟩ := Z.k_PARTS_OF_if; exact ⟨⟨_, h⟩, _, _, _, Z.t_PARTS_OF.at_, Z.t_PARTS_OF.lit, h, t, rfl⟩
  | all a => obtain ⟨t, h⟩ := Z.k_PARTS_OF_all; exact ⟨⟨_, h⟩, _, _, _, Z.t_PARTS_OF.at_, Z.t_PARTS_OF.lit, h, t, rfl⟩
abbrev s_Formula___init__ : Stmt := inClass (top 22) 0
theorem sc_Formula___init__ : FnScope ["self", "kind", "parts", "part", "inner", "first", "second"] ["self", "kind", "parts"] (defScope s_Formula___init__) := ⟨rfl, rfl, rfl, by decide +kernel, rfl, by decide +kernel, by decide +kernel⟩
theorem m_Formula {P : Program} {w : World} {K : PySem.W.Frag} {mg : Str → Option Value} {base : Heap} {cl : Nat → Addr} {f : Addr} {fd : FuncData} (mk : Mk K (cl 0) f) (B : Blt mg) (Z : ZZ K w mg cl) (Fn : Fun K "__init__" "Formula.__init__" s_Formula___init__ f fd)
    (c_united : Cal P w K mg base 1 "united" (spN FK ⟨K, cl⟩ S_united) [])
    (c_merged : Cal P w K mg base 1 "merged" (spN FK ⟨K, cl⟩ S_merged) [])
    (c_is_atom : Cal P w K mg base 1 "is_atom" (spN FK ⟨K, cl⟩ S_isatomN) []) : MakR P w K mg base 2 "Formula" (cl 0) (spN FK ⟨K, cl⟩ (starS 2 S_init)) := by
  have fz := Z.z0
  refine ⟨f, mk, okS (ps := ["self", "kind"]) (pv := "parts") Fn sc_Formula___init__ (fun _ _ _ _ _ _ us rest hl => match us, hl, rest with | [_, _], _, [] => rfl | [_, _], _, [_] => rfl | [_, _], _, _ :: _ :: _ => rfl) fun cdv A outer s H E hr => ⟨_, PSs.nox (pss_cons (ps_if (PW.pt (pw_or (pt_not (pt_val (pe_callB call_isi (by rfl) B.isinstance bt_isinstance (pa_cons (pv 1) (pa_cons (pe_bltn (by rfl) B.str bt_str (relV_ty _)) pa_nil))))) (pw_or1 (pt_cmpR (op_notIn_kd Z.t_PARTS_OF) (pv 1) (pe_glob (by rfl) Z.g_PARTS_OF (relV_ref _)) rfl)))) (pss_one (ps_never)) (pss_nil))
 (pss_cons (ps_if (pt_cmpR op_ne (pe_callB call_len (by rfl) B.len bt_len (pa_cons (pv 2) pa_nil)) (pe_ix ix_kdict (pe_glob (by rfl) Z.g_PARTS_OF (relV_ref _)) (pv 1) (fun _ _ => rfl)) (nomark _)) (pss_one (ps_never)) (pss_nil))
 (pss_cons (ps_for PassesOwn.never rfl (pi_tup (pv 2)) (pg_name (i := 3) sc_Formula___init__.nd rfl (Or.inl rfl)) (pss_one (ps_if (pt_not (pt_ifE (pt_cmpR op_eq (pv 1) (C8.pe_gc (by rfl) Z.g_ATOM) (nomark _)) (pt_val (pe_c c_is_atom hr (by omega) (by rfl) (pa_cons (pv 3) pa_nil))) (pt_val (pe_callB call_isi (by rfl) B.isinstance bt_isinstance (pa_cons (pv 3) (pa_cons (pe_glob (by rfl) Z.g_Formula (relV_ref _)) pa_nil)))))) (pss_one (ps_never)) (pss_nil))))
 (pss_cons (ps_fld (pv 0) (pv 1) rfl)
 (pss_cons (ps_fld (pv 0) (pv 2) rfl)
 (pss_cons (ps_fld (pv 0) pe_int rfl)
 (pss_cons (ps_fld (pv 0) (pe_callTy call_int1 (by rfl) B.int bt_int (pa_cons (pe_cmpR op_eq (pv 1) (C8.pe_gc (by rfl) Z.g_ALL) (nomark _)) pa_nil)) rfl)
 (pss_cons (ps_asg2 pe_str (pg_fld (pv 0)) (pg_fld (pv 0)))
 (pss_cons (ps_asg (pe_tup (pa_cons (C8.pe_gc (by rfl) Z.g_NO) (pa_cons (pe_tup pa_nil) pa_nil))) (pg_tup (n := 2) rfl (pgs_cons (pg_fld (pv 0)) (pgs_cons (pg_fld (pv 0)) pgs_nil))))
 (pss_one (ps_if (pt_cmpR op_eq (pv 1) (C8.pe_gc (by rfl) Z.g_ATOM) (nomark _)) (pss_one (ps_asg3 (pe_ix ix_tup (pv 2) pe_int (fun _ _ => rfl)) (pg_fld (pv 0)) (pg_fld (pv 0)) (pg_fld (pv 0)))) (pss_one (ps_if (pt_cmpR op_eq (pv 1) (C8.pe_gc (by rfl) Z.g_ALL) (nomark _)) (pss_cons (ps_set (i := 4) sc_Formula___init__.nd rfl (Or.inl rfl) (pe_ix ix_tup (pv 2) pe_int (fun _ _ => rfl)))
 (pss_cons (ps_asg (pe_tup (pa_cons (pe_op op_add pe_int (pe_fld (pv 4) rfl)) (pa_cons (pe_op op_add pe_int (pe_fld (pv 4) rfl)) pa_nil))) (pg_tup (n := 2) rfl (pgs_cons (pg_fld (pv 0)) (pgs_cons (pg_fld (pv 0)) pgs_nil))))
 (pss_cons (ps_asg (pe_tup (pa_cons (pe_fld (pv 4) rfl) (pa_cons (pe_op op_add_str (C8.pe_gc (by rfl) Z.g_ALL_AHEAD) (pe_fld (pv 4) rfl)) pa_nil))) (pg_tup (n := 2) rfl (pgs_cons (pg_fld (pv 0)) (pgs_cons (pg_fld (pv 0)) pgs_nil))))
 (pss_one (ps_fld (pv 0) (pe_c c_merged hr (by omega) (by rfl) (pa_cons (pe_fld (pv 4) rfl) (pa_cons (pe_tup (pa_cons (pv 0) pa_nil)) pa_nil))) rfl))))) (pss_one (ps_if (pt_cmpR op_eq (pv 1) (C8.pe_gc (by rfl) Z.g_IF) (nomark _)) (pss_cons (ps_asg (pv 2) (pg_tup (n := 2) rfl (pgs_cons (pg_name (i := 5) sc_Formula___init__.nd rfl (Or.inl rfl)) (pgs_cons (pg_name (i := 6) sc_Formula___init__.nd rfl (Or.inl rfl)) pgs_nil))))
 (pss_cons (ps_asg (pe_tup (pa_cons (pe_op op_add (pe_op op_add pe_int (pe_fld (pv 5) rfl)) (pe_fld (pv 6) rfl)) (pa_cons (pe_callB (call_max2 rfl) (by rfl) B.max bt_max (pa_cons (pe_fld (pv 5) rfl) (pa_cons (pe_fld (pv 6) rfl) pa_nil))) pa_nil))) (pg_tup (n := 2) rfl (pgs_cons (pg_fld (pv 0)) (pgs_cons (pg_fld (pv 0)) pgs_nil))))
 (pss_cons (ps_fld (pv 0) (pe_c c_united hr (by omega) (by rfl) (pa_cons (pe_fld (pv 5) rfl) (pa_cons (pe_fld (pv 6) rfl) pa_nil))) rfl)
 (pss_cons (ps_fld (pv 0) (pe_c c_united hr (by omega) (by rfl) (pa_cons (pe_fld (pv 5) rfl) (pa_cons (pe_fld (pv 6) rfl) pa_nil))) rfl)
 (pss_cons (ps_fld (pv 0) (pe_c c_merged hr (by omega) (by rfl) (pa_cons (pe_fld (pv 5) rfl) (pa_cons (pe_fld (pv 6) rfl) pa_nil))) rfl)
 (pss_one (ps_fld (pv 0) (pe_joined (PJ.cons pe_str (PJ.cons (pe_fmt (pe_fld (pv 5) rfl)) (PJ.cons (pe_fmt (C8.pe_gc (by rfl) Z.g_BETWEEN)) (PJ.cons (pe_fmt (pe_fld (pv 6) rfl)) (PJ.cons pe_str PJ.nil)))))) rfl))))))) (pss_nil)))))))))))))))), ?_⟩, Z.g_Formula⟩
  rintro ds W post ⟨x, f, rfl, rfl, hf, k⟩
  try dsimp only [cxOf, Cx.nox, Cx.wish]
  walk_at "st"
  obtain ⟨⟨r0, hk1⟩, hk2⟩ := kd_facts (P := P) Z f
  walk_at "st"
  try refine if_not rfl ?_
  walk_at "st"
  refine bo_knin hk1 ?_
  walk_at "st"
  try refine if_not rfl ?_
  walk_at "st"
  try refine ca_len (.inr rfl) ?_
  walk_at "st"
  refine bo_kix hk2 ?_
  walk_at "st"
  refine if_not (by simp) ?_
  walk_at "st"
  refine sw_for (ei_tup ?_)
  walk_at "st"
  refine ⟨fun i G' W' => W' = [(x, .ins 0 [] [])] ∧ ∃ o, G' = [some (.adr x), some (.str f.kind), some (.tup (partsD f)), o, none, none, none], ⟨rfl, _, rfl⟩, ?_, ?_⟩
  · rintro i d G' W' hd ⟨rfl, o, rfl⟩
    refine tg_name ?_
    walk_at "st"
    refine if_dec (fun e => ?_) (fun e => ?_)
    · obtain ⟨c, rfl⟩ := kind_at.mp e
      have hd := List.mem_of_getElem? hd
      simp only [partsD, List.mem_singleton] at hd
      subst hd
      walk_at "st"
      refine hand0 ⟨_, rfl, rfl, .inl ⟨_, rfl, Nat.le_of_ble_eq_true rfl, ?_⟩⟩
      rw [show isLet ⟨#[c]⟩ = true from (isLet_sg c).trans (decide_eq_true hf.ok)]
      simp only [List.nil_append]
      walk_at "st"
      try refine if_not rfl ?_
      walk_at "st"
      exact ⟨rfl, _, rfl⟩
    · obtain ⟨g, rfl⟩ := parts_fm (fun c ec => e (kind_at.mpr ⟨c, ec⟩)) d (List.mem_of_getElem? hd)
      walk_at "st"
      try refine isi_ins (.fm g) Z.z0.ins ?_
      walk_at "st"
      try refine if_not rfl ?_
      walk_at "st"
      exact ⟨rfl, _, rfl⟩
  · rintro G' W' ⟨rfl, o, rfl⟩
    walk_at "st"
    refine rcv_new Z.z0 (by decide +kernel) (by decide +kernel) (by decide) ?_
    walk_at "st"
    refine rcv_new Z.z0 (by decide +kernel) (by decide +kernel) (by decide) ?_
    walk_at "st"
    refine rcv_new Z.z0 (by decide +kernel) (by decide +kernel) (by decide) ?_
    walk_at "st"
    refine rcv_new Z.z0 (by decide +kernel) (by decide +kernel) (by decide) ?_
    walk_at "st"
    refine rcv_new Z.z0 (by decide +kernel) (by decide +kernel) (by decide) ?_
    walk_at "st"
    refine rcv_new Z.z0 (by decide +kernel) (by decide +kernel) (by decide) ?_
    walk_at "st"
    refine rcv_new Z.z0 (by decide +kernel) (by decide +kernel) (by decide) ?_
    walk_at "st"
    refine rcv_new Z.z0 (by decide +kernel) (by decide +kernel) (by decide) ?_
    walk_at "st"
    cases f with
    | «at» c =>
      try refine if_so (show decide (("atom" : Str) = "atom") = true by decide +kernel) ?_
      simp only [partsD]
      walk_at "st"
      refine rcv_at 4 Z.z0 (by decide +kernel) (by decide +kernel) rfl (by decide) ?_
      walk_at "st"
      refine rcv_at 5 Z.z0 (by decide +kernel) (by decide +kernel) rfl (by decide) ?_
      walk_at "st"
      refine rcv_at 6 Z.z0 (by decide +kernel) (by decide +kernel) rfl (by decide) ?_
      exact k [] rfl
    | no =>
      try refine if_not (show decide (("no" : Str) = "atom") = false by decide +kernel) ?_
      walk_at "st"
      try refine if_not (by decide +kernel) ?_
      walk_at "st"
      try refine if_not (by decide +kernel) ?_
      walk_at "st"
      exact k [] rfl
    | all a =>
      try refine if_not (show decide (("all" : Str) = "atom") = false by decide +kernel) ?_
      walk_at "st"
      try refine if_so (show decide (("all" : Str) = "all") = true by decide +kernel) ?_
      simp only [partsD]
      walk_at "st"
      refine rcv_at 2 Z.z0 (by decide +kernel) (by decide +kernel) rfl (by decide) ?_
      walk_at "st"
      refine rcv_at 3 Z.z0 (by decide +kernel) (by decide +kernel) rfl (by decide) ?_
      walk_at "st"
      have hsz := hf.sz
      simp only [Fm.sz] at hsz
      have h16 := sizeLine_eq
      refine bo_addS (by rw [Fm.spell_len]; show 4 + _ ≤ _; omega) ?_
      walk_at "st"
      refine rcv_at 4 Z.z0 (by decide +kernel) (by decide +kernel) rfl (by decide) ?_
      walk_at "st"
      refine rcv_at 6 Z.z0 (by decide +kernel) (by decide +kernel) rfl (by decide) ?_
      walk_at "st"
      refine handA ⟨a.alls.map fun g => (D.fm g, g), [(.adr x, .all a)], by rw [fm_map]; rfl, ?_, ?_, by simp, ?_, ?_⟩
      · intro p hp
        rcases List.mem_append.mp hp with h | h
        · obtain ⟨g, hg, e⟩ := List.mem_map.mp h
          subst e
          exact ⟨(Fm.alls_sub (f := a) hf.a.ok).1 g hg, spl_fm g⟩
        · rw [List.mem_singleton] at h
          subst h
          exact ⟨hf.ok, _, _, .own x 0 _ _ List.mem_cons_self, rfl⟩
      · rw [List.length_map]
        exact hf.a.alls
      · rw [fm_map2]
        exact hf.alls
      · intro e' h1 h2
        rw [fm_map2] at h1
        walk_at "st"
        refine rcv_at 7 Z.z0 (by decide +kernel) (by decide +kernel) rfl (by decide) ?_
        have := allsD_of (x := x) (f := .all a) (e := e') fun p hp => by
          rcases List.mem_append.mp (h2 p hp) with h | h
          · obtain ⟨g, hg, e⟩ := List.mem_map.mp h
            subst e
            exact .inl rfl
          · rw [List.mem_singleton] at h
            subst h
            exact .inr ⟨rfl, rfl⟩
        rw [h1] at this
        exact k _ this
    | imp a b =>
      try refine if_not (show decide (("if" : Str) = "atom") = false by decide +kernel) ?_
      walk_at "st"
      try refine if_not (show decide (("if" : Str) = "all") = false by decide +kernel) ?_
      walk_at "st"
      try refine if_so (show decide (("if" : Str) = "if") = true by decide +kernel) ?_
      simp only [partsD]
      walk_at "st"
      refine rcv_at 2 Z.z0 (by decide +kernel) (by decide +kernel) rfl (by decide) ?_
      walk_at "st"
      refine rcv_at 3 Z.z0 (by decide +kernel) (by decide +kernel) rfl (by decide) ?_
      walk_at "st"
      have la := Fm.atoms_len hf.ok.1
      have lb := Fm.atoms_len hf.ok.2
      have lc := Fm.outer_len hf.ok.1
      have ld := Fm.outer_len hf.ok.2
      refine hand0 ⟨_, _, rfl, by omega, rfl, ?_⟩
      rw [List.nil_append]
      walk_at "st"
      refine rcv_at 4 Z.z0 (by decide +kernel) (by decide +kernel) rfl (by decide) ?_
      walk_at "st"
      refine hand0 ⟨_, _, rfl, by omega, rfl, ?_⟩
      rw [List.nil_append]
      walk_at "st"
      refine rcv_at 5 Z.z0 (by decide +kernel) (by decide +kernel) rfl (by decide) ?_
      walk_at "st"
      refine handA ⟨a.alls.map fun g => (D.fm g, g), b.alls.map fun g => (D.fm g, g), by rw [fm_map, fm_map]; rfl, ?_, ?_, ?_, ?_, ?_⟩
      · intro p hp
        rw [← List.map_append] at hp
        obtain ⟨g, hg, e⟩ := List.mem_map.mp hp
        subst e
        refine ⟨?_, spl_fm g⟩
        rcases List.mem_append.mp hg with h | h
        · exact (Fm.alls_sub hf.l.ok).1 g h
        · exact (Fm.alls_sub hf.r.ok).1 g h
      · rw [List.length_map]
        exact hf.l.alls
      · rw [List.length_map]
        exact hf.r.alls
      · rw [fm_map2, fm_map2]
        exact hf.alls
      · intro e' h1 h2
        rw [fm_map2, fm_map2] at h1
        walk_at "st"
        refine rcv_at 7 Z.z0 (by decide +kernel) (by decide +kernel) rfl (by decide) ?_
        have := allsD_of (x := x) (f := .imp a b) (e := e') fun p hp => by
          have h := h2 p hp
          rw [← List.map_append] at h
          obtain ⟨g, hg, e⟩ := List.mem_map.mp h
          subst e
          exact .inl rfl
        rw [h1] at this
        have k2 := k _ this
        walk_at "st"
        refine ev_joined ?_
        have hsz := hf.sz
        simp only [Fm.sz] at hsz
        have h16 := sizeLine_eq
        have l1 : ("(" : Str).length = 1 := rfl
        have l2 : (" > " : Str).length = 3 := rfl
        have l3 : (")" : Str).length = 1 := rfl
        have l4 := Fm.spell_len a
        have l5 := Fm.spell_len b
        refine ev_c ⟨_, rfl, by rw [empty_app, l1]; omega, ?_⟩
        refine ev_fmt ?_
        walk_at "st"
        refine ⟨by omega, _, rfl, by rw [empty_app, str_app_len]; omega, ?_⟩
        refine ev_fmt ?_
        walk_at "st"
        refine ⟨by rw [empty_app, str_app_len, str_app_len]; omega, ?_⟩
        refine ev_fmt ?_
        walk_at "st"
        refine ⟨by omega, _, rfl, by rw [empty_app, str_app_len, str_app_len, str_app_len]; omega, ?_⟩
        refine ev_c ⟨_, rfl, by rw [empty_app, str_app_len, str_app_len, str_app_len, str_app_len]; omega, ?_⟩
        rw [empty_app]
        refine ev_var rfl ?_
        refine rcv_at 6 Z.z0 (by decide +kernel) (by decide +kernel) rfl (by decide) ?_
        rw [max_int]
        exact k2
end
section
abbrev s_as_formula : Stmt := top 23
theorem sc_as_formula : FnScope ["value"] ["value"] (defScope s_as_formula) := ⟨rfl, rfl, rfl, by decide +kernel, rfl, by decide +kernel, by decide +kernel⟩
theorem c_as_formula {P : Program} {w : World} {K : PySem.W.Frag} {mg : Str → Option Value} {base : Heap} {cl : Nat → Addr} {f : Addr} {fd : FuncData} (hm : mg "as_formula" = some (.ref f)) (B : Blt mg) (Z : ZZ K w mg cl) (Fn : Fun K "as_formula" "as_formula" s_as_formula f fd)
    (c_is_atom : Cal P w K mg base 1 "is_atom" (spN FK ⟨K, cl⟩ S_isatomN) [])
    (m_Formula : MakR P w K mg base 2 "Formula" (cl 0) (spN FK ⟨K, cl⟩ (starS 2 S_init))) : Cal P w K mg base 5 "as_formula" (spN FK ⟨K, cl⟩ S_opd) [] := by
  have fz := Z.z0
  refine calD hm Fn sc_as_formula (by intro ds W post h; first | (obtain ⟨rfl, _⟩ := h; rfl) | (obtain ⟨_, rfl, _⟩ := h; rfl) | (obtain ⟨_, _, rfl, _⟩ := h; rfl) | (obtain ⟨_, _, _, rfl, _⟩ := h; rfl) | (obtain ⟨_, _, _, _, rfl, _⟩ := h; rfl) | (obtain ⟨_, _, _, _, _, rfl, _⟩ := h; rfl) | (obtain ⟨_, _, _, _, _, _, rfl, _⟩ := h; rfl) | (obtain ⟨_, _, _, _, _, _, _, rfl, _⟩ := h; rfl) | (obtain ⟨_, _, _, _, _, _, _, _, rfl, _⟩ := h; rfl) | (obtain ⟨_, _, _, _, _, _, _, _, _, rfl, _⟩ := h; rfl) | (obtain ⟨_, _, _, _, _, _, _, _, _, _, rfl, _⟩ := h; rfl) | (obtain ⟨_, _, _, _, _, _, _, _, _, _, _, rfl, _⟩ := h; rfl)) (fun _ _ _ _ _ _ us hl => match us, hl with | [_], _ => rfl) fun cdv A outer s H E hr => ⟨_, pss_cons (ps_if (pt_val (pe_callB call_isi (by rfl) B.isinstance bt_isinstance (pa_cons (pv 0) (pa_cons (pe_glob (by rfl) Z.g_Formula (relV_ref _)) pa_nil)))) (pss_one (ps_ret (pv 0))) (pss_nil))
 (pss_one (ps_ret (pe_ifExp (pt_val (pe_c c_is_atom hr (by omega) (by rfl) (pa_cons (pv 0) pa_nil))) (pe_mkR m_Formula hr (by omega) (by rfl) (pa_cons (C8.pe_gc (by rfl) Z.g_ATOM) (pa_cons (pv 0) pa_nil))) pe_non))), ?_⟩
  rintro ds W post ⟨d, f, rfl, rfl, hd, k⟩
  try dsimp only [cxOf, Cx.nox, Cx.wish]
  rcases hd with rfl | ⟨c, hc, rfl, rfl⟩
  · walk_at "st"
    try refine isi_ins (.fm f) fz.ins ?_
    walk_at "st"
    try refine if_so (by first | rfl | decide +kernel | simp) ?_
    try walk_at "st"
    exact k
  · walk_at "st"
    refine isi_strF fz ?_
    walk_at "st"
    try refine if_not (by first | rfl | decide +kernel | simp) ?_
    try walk_at "st"
    refine hand0 ⟨_, rfl, rfl, .inl ⟨_, rfl, Nat.le_of_ble_eq_true rfl, ?_⟩⟩
    try simp only [List.nil_append]
    try walk_at "st"
    rw [isLet_sg, decide_eq_true hc]
    try refine if_so (by first | rfl | decide +kernel | simp) ?_
    try walk_at "st"
    exact ⟨.at c, rfl, ⟨hc, Nat.le_of_ble_eq_true rfl, Nat.lt_of_lt_of_le Nat.zero_lt_one (Nat.le_of_ble_eq_true rfl)⟩, k⟩
abbrev s_Formula___str__ : Stmt := inClass (top 22) 7
theorem sc_Formula___str__ : FnScope ["self"] ["self"] (defScope s_Formula___str__) := ⟨rfl, rfl, rfl, by decide +kernel, rfl, by decide +kernel, by decide +kernel⟩
theorem o_str {P : Program} {w : World} {K : PySem.W.Frag} {mg : Str → Option Value} {base : Heap} {cl : Nat → Addr} {f : Addr} {fd : FuncData} (o : Own2 K (cl 0) "__str__" f) (B : Blt mg) (Z : ZZ K w mg cl) (Fn : Fun K "__str__" "Formula.__str__" s_Formula___str__ f fd) : Opn P w K mg base 1 (cl 0) "__str__" (spN FK ⟨K, cl⟩ S_str) := by
  have fz := Z.z0
  refine opnD o Fn sc_Formula___str__ (by intro ds W post h; first | (obtain ⟨rfl, _⟩ := h; rfl) | (obtain ⟨_, rfl, _⟩ := h; rfl) | (obtain ⟨_, _, rfl, _⟩ := h; rfl) | (obtain ⟨_, _, _, rfl, _⟩ := h; rfl) | (obtain ⟨_, _, _, _, rfl, _⟩ := h; rfl) | (obtain ⟨_, _, _, _, _, rfl, _⟩ := h; rfl) | (obtain ⟨_, _, _, _, _, _, rfl, _⟩ := h; rfl) | (obtain ⟨_, _, _, _, _, _, _, rfl, _⟩ := h; rfl) | (obtain ⟨_, _, _, _, _, _, _, _, rfl, _⟩ := h; rfl) | (obtain ⟨_, _, _, _, _, _, _, _, _, rfl, _⟩ := h; rfl) | (obtain ⟨_, _, _, _, _, _, _, _, _, _, rfl, _⟩ := h; rfl) | (obtain ⟨_, _, _, _, _, _, _, _, _, _, _, rfl, _⟩ := h; rfl)) (fun _ _ _ _ _ _ us hl => match us, hl with | [_], _ => rfl) fun cdv A outer s H E hr => ⟨_, pss_one (ps_ret (pe_callTy SkE.call_str_str (by rfl) B.str bt_str (pa_cons (pe_fld (pv 0) rfl) pa_nil))), ?_⟩
  rintro ds W post ⟨f, rfl, rfl, k⟩
  try dsimp only [cxOf, Cx.nox, Cx.wish]
  walk_at "st"
  refine ca_strS ?_
  exact k
end
section
abbrev s_Formula___eq__ : Stmt := inClass (top 22) 6
theorem sc_Formula___eq__ : FnScope ["self", "other"] ["self", "other"] (defScope s_Formula___eq__) := ⟨rfl, rfl, rfl, by decide +kernel, rfl, by decide +kernel, by decide +kernel⟩
theorem o_eq {P : Program} {w : World} {K : PySem.W.Frag} {mg : Str → Option Value} {base : Heap} {cl : Nat → Addr} {f : Addr} {fd : FuncData} (o : Own2 K (cl 0) "__eq__" f) (B : Blt mg) (Z : ZZ K w mg cl) (Fn : Fun K "__eq__" "Formula.__eq__" s_Formula___eq__ f fd) : Opn P w K mg base 1 (cl 0) "__eq__" (spN FK ⟨K, cl⟩ S_eqF) := by
  have fz := Z.z0
  refine opnD o Fn sc_Formula___eq__ (by intro ds W post h; first | (obtain ⟨rfl, _⟩ := h; rfl) | (obtain ⟨_, rfl, _⟩ := h; rfl) | (obtain ⟨_, _, rfl, _⟩ := h; rfl) | (obtain ⟨_, _, _, rfl, _⟩ := h; rfl) | (obtain ⟨_, _, _, _, rfl, _⟩ := h; rfl) | (obtain ⟨_, _, _, _, _, rfl, _⟩ := h; rfl) | (obtain ⟨_, _, _, _, _, _, rfl, _⟩ := h; rfl) | (obtain ⟨_, _, _, _, _, _, _, rfl, _⟩ := h; rfl) | (obtain ⟨_, _, _, _, _, _, _, _, rfl, _⟩ := h; rfl) | (obtain ⟨_, _, _, _, _, _, _, _, _, rfl, _⟩ := h; rfl) | (obtain ⟨_, _, _, _, _, _, _, _, _, _, rfl, _⟩ := h; rfl) | (obtain ⟨_, _, _, _, _, _, _, _, _, _, _, rfl, _⟩ := h; rfl)) (fun _ _ _ _ _ _ us hl => match us, hl with | [_, _], _ => rfl) fun cdv A outer s H E hr => ⟨_, pss_one (ps_ret (pe_and (pe_callB call_isi (by rfl) B.isinstance bt_isinstance (pa_cons (pv 1) (pa_cons (pe_glob (by rfl) Z.g_Formula (relV_ref _)) pa_nil))) (pe_one (pe_cmpR op_eq (pe_fld (pv 0) rfl) (pe_fld (pv 1) rfl) (nomark _))))), ?_⟩
  rintro ds W post ⟨f, g, rfl, rfl, k⟩
  try dsimp only [cxOf, Cx.nox, Cx.wish]
  walk_at "st"
  exact k
end
section
abbrev s_is_mark : Stmt := top 38
theorem sc_is_mark : FnScope ["thing"] ["thing"] (defScope s_is_mark) := ⟨rfl, rfl, rfl, by decide +kernel, rfl, by decide +kernel, by decide +kernel⟩
theorem c_is_mark {P : Program} {w : World} {K : PySem.W.Frag} {mg : Str → Option Value} {base : Heap} {cl : Nat → Addr} {f : Addr} {fd : FuncData} (hm : mg "is_mark" = some (.ref f)) (B : Blt mg) (Z : ZZ K w mg cl) (Fn : Fun K "is_mark" "is_mark" s_is_mark f fd)
    (c_is_atom : Cal P w K mg base 1 "is_atom" (spN FK ⟨K, cl⟩ S_isatomN) []) : Cal P w K mg base 2 "is_mark" (spN FK ⟨K, cl⟩ S_ismarkN) [] := by
  have fz := Z.z0
  refine calD hm Fn sc_is_mark (by intro ds W post h; first | (obtain ⟨rfl, _⟩ := h; rfl) | (obtain ⟨_, rfl, _⟩ := h; rfl) | (obtain ⟨_, _, rfl, _⟩ := h; rfl) | (obtain ⟨_, _, _, rfl, _⟩ := h; rfl) | (obtain ⟨_, _, _, _, rfl, _⟩ := h; rfl) | (obtain ⟨_, _, _, _, _, rfl, _⟩ := h; rfl) | (obtain ⟨_, _, _, _, _, _, rfl, _⟩ := h; rfl) | (obtain ⟨_, _, _, _, _, _, _, rfl, _⟩ := h; rfl) | (obtain ⟨_, _, _, _, _, _, _, _, rfl, _⟩ := h; rfl) | (obtain ⟨_, _, _, _, _, _, _, _, _, rfl, _⟩ := h; rfl) | (obtain ⟨_, _, _, _, _, _, _, _, _, _, rfl, _⟩ := h; rfl) | (obtain ⟨_, _, _, _, _, _, _, _, _, _, _, rfl, _⟩ := h; rfl)) (fun _ _ _ _ _ _ us hl => match us, hl with | [_], _ => rfl) fun cdv A outer s H E hr => ⟨_, pss_one (ps_ret (pe_and (pe_c c_is_atom hr (by omega) (by rfl) (pa_cons (pv 0) pa_nil)) (pe_one (pe_cmpR op_in_sign (pv 0) (C8.pe_gc (by rfl) Z.g_CAPITALS) rfl)))), ?_⟩
  rintro ds W post ⟨d, rfl, rfl, ⟨x, rfl, hl, k⟩ | ⟨hn, k⟩⟩
  try dsimp only [cxOf, Cx.nox, Cx.wish]
  · walk_at "st"
    refine hand0 ⟨_, rfl, rfl, .inl ⟨x, rfl, hl, ?_⟩⟩
    try simp only [List.nil_append]
    try walk_at "st"
    unfold isCap at k
    cases e : isLet x with
    | false =>
      rw [e] at k
      refine if_not rfl ?_
      exact k
    | true =>
      rw [e] at k
      obtain ⟨c, rfl, hc⟩ := isLet_of e
      refine if_so rfl ?_
      walk_at "st"
      refine bo_inSg ?_
      rw [caps_dec hc]
      exact k
  · walk_at "st"
    refine hand0 ⟨_, rfl, rfl, .inr ⟨hn, ?_⟩⟩
    try simp only [List.nil_append]
    try walk_at "st"
    exact k
abbrev s_is_rule : Stmt := top 39
theorem sc_is_rule : FnScope ["thing"] ["thing"] (defScope s_is_rule) := ⟨rfl, rfl, rfl, by decide +kernel, rfl, by decide +kernel, by decide +kernel⟩
theorem c_is_rule {P : Program} {w : World} {K : PySem.W.Frag} {mg : Str → Option Value} {base : Heap} {cl : Nat → Addr} {f : Addr} {fd : FuncData} (hm : mg "is_rule" = some (.ref f)) (B : Blt mg) (Z : ZZ K w mg cl) (Fn : Fun K "is_rule" "is_rule" s_is_rule f fd)
    (c_is_mark : Cal P w K mg base 2 "is_mark" (spN FK ⟨K, cl⟩ S_ismarkN) [])
    (c_is_atom : Cal P w K mg base 1 "is_atom" (spN FK ⟨K, cl⟩ S_isatomN) []) : Cal P w K mg base 3 "is_rule" (spN FK ⟨K, cl⟩ S_isruleN) [] := by
  have fz := Z.z0
  refine calD hm Fn sc_is_rule (by intro ds W post h; first | (obtain ⟨rfl, _⟩ := h; rfl) | (obtain ⟨_, rfl, _⟩ := h; rfl) | (obtain ⟨_, _, rfl, _⟩ := h; rfl) | (obtain ⟨_, _, _, rfl, _⟩ := h; rfl) | (obtain ⟨_, _, _, _, rfl, _⟩ := h; rfl) | (obtain ⟨_, _, _, _, _, rfl, _⟩ := h; rfl) | (obtain ⟨_, _, _, _, _, _, rfl, _⟩ := h; rfl) | (obtain ⟨_, _, _, _, _, _, _, rfl, _⟩ := h; rfl) | (obtain ⟨_, _, _, _, _, _, _, _, rfl, _⟩ := h; rfl) | (obtain ⟨_, _, _, _, _, _, _, _, _, rfl, _⟩ := h; rfl) | (obtain ⟨_, _, _, _, _, _, _, _, _, _, rfl, _⟩ := h; rfl) | (obtain ⟨_, _, _, _, _, _, _, _, _, _, _, rfl, _⟩ := h; rfl)) (fun _ _ _ _ _ _ us hl => match us, hl with | [_], _ => rfl) fun cdv A outer s H E hr => ⟨_, pss_cons (ps_if (PW.pt (pw_or (pt_not (pt_val (pe_callB call_isi (by rfl) B.isinstance bt_isinstance (pa_cons (pv 0) (pa_cons (pe_bltn (by rfl) B.tuple bt_tuple (relV_ty _)) pa_nil))))) (pw_or (pt_cmpR op_ne (pe_callB call_len (by rfl) B.len bt_len (pa_cons (pv 0) pa_nil)) (C8.pe_gc (by rfl) Z.g_PAIR_PARTS) (nomark _)) (pw_or1 (pt_not (pt_val (pe_c c_is_mark hr (by omega) (by rfl) (pa_cons (pe_ix ix_tup (pv 0) pe_int (fun _ _ => rfl)) pa_nil)))))))) (pss_one (ps_ret pe_bl)) (pss_nil))
 (pss_one (ps_ret (pe_or (pe_callB call_isi (by rfl) B.isinstance bt_isinstance (pa_cons (pe_ix ix_tup (pv 0) pe_int (fun _ _ => rfl)) (pa_cons (pe_glob (by rfl) Z.g_Formula (relV_ref _)) pa_nil))) (pe_one (pe_c c_is_atom hr (by omega) (by rfl) (pa_cons (pe_ix ix_tup (pv 0) pe_int (fun _ _ => rfl)) pa_nil)))))), ?_⟩
  rintro ds W post ⟨m, d, rfl, rfl, hh⟩
  try dsimp only [cxOf, Cx.nox, Cx.wish]
  rcases hh with ⟨c, f, rfl, h1, h2, hd, k⟩ | ⟨hm, hd, hb, k⟩
  · walk_at "st"
    refine hand0 ⟨_, rfl, rfl, .inl ⟨_, rfl, Nat.le_of_ble_eq_true rfl, ?_⟩⟩
    try simp only [List.nil_append]
    try walk_at "st"
    rw [isCap_sg h1 h2]
    try refine if_not (by first | rfl | decide +kernel | simp) ?_
    try walk_at "st"
    walk_at "st"
    rcases hd with rfl | ⟨q, hq, rfl, rfl⟩
    · walk_at "st"
      try refine isi_ins (.fm f) fz.ins ?_
      walk_at "st"
      try refine if_so (by first | rfl | decide +kernel | simp) ?_
      try walk_at "st"
      exact k
    · walk_at "st"
      refine isi_strF fz ?_
      walk_at "st"
      refine hand0 ⟨_, rfl, rfl, .inl ⟨_, rfl, Nat.le_of_ble_eq_true rfl, ?_⟩⟩
      try simp only [List.nil_append]
      try walk_at "st"
      rw [isLet_sg, decide_eq_true hq]
      exact k
  · walk_at "st"
    unfold isRuleB at hb
    rcases hm with ⟨x, rfl, hl⟩ | hn
    · refine hand0 ⟨_, rfl, rfl, .inl ⟨x, rfl, hl, ?_⟩⟩
      try simp only [List.nil_append]
      try walk_at "st"
      cases e : isCap x with
      | false =>
        try refine if_so (by first | rfl | decide +kernel | simp) ?_
        try walk_at "st"
        exact k
      | true =>
        rw [show isCapD (.str x) = true from e, Bool.true_and] at hb
        try refine if_not (by first | rfl | decide +kernel | simp) ?_
        try walk_at "st"
        walk_at "st"
        rcases hd with ⟨f, rfl⟩ | ⟨y, rfl, hy⟩ | hn
        · cases hb
        · refine isi_strF fz ?_
          walk_at "st"
          refine hand0 ⟨_, rfl, rfl, .inl ⟨y, rfl, hy, ?_⟩⟩
          try simp only [List.nil_append]
          try walk_at "st"
          rw [show isLet y = false from hb]
          exact k
        · refine isi_notC Z.q0 hn ?_
          walk_at "st"
          refine hand0 ⟨_, rfl, rfl, .inr ⟨hn, ?_⟩⟩
          try simp only [List.nil_append]
          try walk_at "st"
          exact k
    · refine hand0 ⟨_, rfl, rfl, .inr ⟨hn, ?_⟩⟩
      try simp only [List.nil_append]
      try walk_at "st"
      try refine if_so (by first | rfl | decide +kernel | simp) ?_
      try walk_at "st"
      exact k
abbrev s_check_rows : Stmt := top 40
theorem sc_check_rows : FnScope ["rows", "item", "mark", "value", "marks", "one", "other", "letter"] ["rows"] (defScope s_check_rows) := ⟨rfl, rfl, rfl, by decide +kernel, rfl, by decide +kernel, by decide +kernel⟩
theorem c_check_rows {P : Program} {w : World} {K : PySem.W.Frag} {mg : Str → Option Value} {base : Heap} {cl : Nat → Addr} {f : Addr} {fd : FuncData} (hm : mg "check_rows" = some (.ref f)) (B : Blt mg) (Z : ZZ K w mg cl) (Fn : Fun K "check_rows" "check_rows" s_check_rows f fd)
    (c_is_rule : Cal P w K mg base 3 "is_rule" (spN FK ⟨K, cl⟩ S_isruleN) [])
    (c_as_formula : Cal P w K mg base 5 "as_formula" (spN FK ⟨K, cl⟩ S_opd) []) : Cal P w K mg base 6 "check_rows" (spN FK ⟨K, cl⟩ S_checkrows) [] := by
  have fz := Z.z0
  refine calD hm Fn sc_check_rows (by intro ds W post h; first | (obtain ⟨rfl, _⟩ := h; rfl) | (obtain ⟨_, rfl, _⟩ := h; rfl) | (obtain ⟨_, _, rfl, _⟩ := h; rfl) | (obtain ⟨_, _, _, rfl, _⟩ := h; rfl) | (obtain ⟨_, _, _, _, rfl, _⟩ := h; rfl) | (obtain ⟨_, _, _, _, _, rfl, _⟩ := h; rfl) | (obtain ⟨_, _, _, _, _, _, rfl, _⟩ := h; rfl) | (obtain ⟨_, _, _, _, _, _, _, rfl, _⟩ := h; rfl) | (obtain ⟨_, _, _, _, _, _, _, _, rfl, _⟩ := h; rfl) | (obtain ⟨_, _, _, _, _, _, _, _, _, rfl, _⟩ := h; rfl) | (obtain ⟨_, _, _, _, _, _, _, _, _, _, rfl, _⟩ := h; rfl) | (obtain ⟨_, _, _, _, _, _, _, _, _, _, _, rfl, _⟩ := h; rfl)) (fun _ _ _ _ _ _ us hl => match us, hl with | [_], _ => rfl) fun cdv A outer s H E hr => ⟨_, pss_cons (ps_if (PW.pt (pw_or (pt_not (pt_val (pe_callB call_isi (by rfl) B.isinstance bt_isinstance (pa_cons (pv 0) (pa_cons (pe_bltn (by rfl) B.tuple bt_tuple (relV_ty _)) pa_nil))))) (pw_or1 (pt_not (pt_chain op_le op_le pe_int (pe_callB call_len (by rfl) B.len bt_len (pa_cons (pv 0) pa_nil)) (C8.pe_gc (by rfl) Z.g_MOST_MARKS)))))) (pss_one (ps_never)) (pss_nil))
 (pss_cons (ps_for PassesOwn.never rfl (pi_tup (pv 0)) (pg_name (i := 1) sc_check_rows.nd rfl (Or.inl rfl)) (pss_one (ps_if (pt_not (pt_val (pe_c c_is_rule hr (by omega) (by rfl) (pa_cons (pv 1) pa_nil)))) (pss_one (ps_never)) (pss_nil))))
 (pss_cons (ps_set (i := 4) sc_check_rows.nd rfl (Or.inr rfl) (pe_lc (own := [("mark", 2), ("value", 3)]) (by rfl) sc_check_rows.nd (pi_tup (pv 0)) (blkOk_by (own := [("mark", 2), ("value", 3)]) (N := ["rows", "item", "mark", "value", "marks", "one", "other", "letter"]) (sc := defScope s_check_rows) (by decide +kernel)) (fun _ _ _ _ _ => (pg_tupK (K := K) rfl (n := 2) rfl (pgs_cons (pg_name (i := 2) sc_check_rows.nd rfl (Or.inl rfl)) (pgs_cons (pg_name (i := 3) sc_check_rows.nd rfl (Or.inl rfl)) pgs_nil)))) (fun _ _ _ _ _ => pts_nil) (fun _ _ _ _ _ => (pv 2))))
 (pss_cons (ps_if (pt_not (pt_val (pe_callB (cr_all rfl) (by rfl) B.all bt_all (pa_cons (pe_lc (own := [("one", 5), ("other", 6)]) (by rfl) sc_check_rows.nd (pi_zipK (by rfl) B.zip (pa_cons (pv 4) (pa_cons (pe_slice sl_list (pv 4) (po_some pe_int) po_none) pa_nil))) (blkOk_by (own := [("one", 5), ("other", 6)]) (N := ["rows", "item", "mark", "value", "marks", "one", "other", "letter"]) (sc := defScope s_check_rows) (by decide +kernel)) (fun _ _ _ _ _ => (pg_tupK (K := K) rfl (n := 2) rfl (pgs_cons (pg_name (i := 5) sc_check_rows.nd rfl (Or.inl rfl)) (pgs_cons (pg_name (i := 6) sc_check_rows.nd rfl (Or.inl rfl)) pgs_nil)))) (fun _ _ _ _ _ => pts_nil) (fun _ _ _ _ _ => (pe_cmpR op_lt_str (pv 5) (pv 6) (nomark _)))) pa_nil)))) (pss_one (ps_never)) (pss_nil))
 (pss_one (ps_for PassesOwn.never rfl (pi_tup (pv 0)) (pg_tup (n := 2) rfl (pgs_cons (pg_name (i := 2) sc_check_rows.nd rfl (Or.inl rfl)) (pgs_cons (pg_name (i := 3) sc_check_rows.nd rfl (Or.inl rfl)) pgs_nil))) (pss_one (ps_if (pt_val (pe_callB (cr_any rfl) (by rfl) B.any bt_any (pa_cons (pe_lc (own := [("letter", 7)]) (by rfl) sc_check_rows.nd (pi_str (pe_fld (pe_c c_as_formula hr (by omega) (by rfl) (pa_cons (pv 3) pa_nil)) rfl)) (blkOk_by (own := [("letter", 7)]) (N := ["rows", "item", "mark", "value", "marks", "one", "other", "letter"]) (sc := defScope s_check_rows) (by decide +kernel)) (fun _ _ _ _ _ => (pg_name (i := 7) sc_check_rows.nd rfl (Or.inl rfl))) (fun _ _ _ _ _ => pts_nil) (fun _ _ _ _ _ => (pe_cmpR (op_in_seqK (K := K) rfl) (pv 7) (pv 4) rfl))) pa_nil))) (pss_one (ps_never)) (pss_nil)))))))), ?_⟩
  rintro ds W post ⟨es, rfl, rfl, he, hr, k⟩
  try dsimp only [cxOf, Cx.nox, Cx.wish]
  have h16 := sizeLine_eq
  have hl : es.length ≤ 4 := by have := hr.few; simpa [rsOf] using this
  have hn : 1 ≤ es.length := by
    have h := List.length_pos_iff.mpr hr.some_
    rw [show (rsOf es).length = es.length from by simp [rsOf]] at h
    omega
  have cap : ∀ e ∈ es, 65 ≤ e.1 ∧ e.1 ≤ 90 := fun e h => hr.cap (e.1, e.2.2) (List.mem_map.mpr ⟨e, h, rfl⟩)
  walk_at "st"
  refine if_so (decide_eq_true (by rw [List.length_map]; omega)) ?_
  walk_at "st"
  refine if_not (by rw [decide_eq_true (show _ ≤ _ from by rw [List.length_map]; omega)]; rfl) ?_
  refine sw_next ?_
  refine sw_seq (sw_for (ei_tup ?_))
  walk_at "st"
  refine ⟨fun i G' W' => W' = [] ∧ ∃ o1, G' = [some (argR es), o1, none, none, none, none, none, none], ⟨rfl, _, rfl⟩, ?_, ?_⟩
  · rintro i d G' W' hdd ⟨rfl, o1, rfl⟩
    rw [List.getElem?_map] at hdd
    obtain ⟨e, he1, rfl⟩ := Option.map_eq_some_iff.mp hdd
    have hm := List.mem_of_getElem? he1
    refine tg_name ?_
    walk_at "st"
    refine hand0 ⟨_, _, rfl, rfl, .inl ⟨e.1, e.2.2, rfl, (cap e hm).1, (cap e hm).2, he e hm, ?_⟩⟩
    try simp only [List.nil_append]
    try walk_at "st"
    exact ⟨rfl, _, rfl⟩
  rintro G' W' ⟨rfl, o1, rfl⟩
  walk_at "st"
  refine ev_lcM (ei_tup ?_)
  walk_at "st"
  refine ⟨(es.map (·.1)).map fun c => .str (sg c), fun i d e hd he2 => ?_, by simp, by simp only [List.length_map]; omega, ?_⟩
  · rw [List.getElem?_map] at hd
    obtain ⟨q, hq, rfl⟩ := Option.map_eq_some_iff.mp hd
    rw [List.map_map, List.getElem?_map, hq] at he2
    obtain rfl := Option.some.inj he2
    refine tw_tup rfl (tws_cons (tw_name (by simp) (tws_cons (tw_name (by simp) (tws_nil ?_)))))
    walk_at "st"
    refine ⟨rfl, ?_⟩
    walk_at "st"
    exact ⟨rfl, rfl⟩
  walk_at "st"
  refine ev_lcM (ei_zipK ?_)
  walk_at "st"
  rw [cutD_d1]
  refine ⟨_, _, _, _, rfl, .inl rfl, .inl rfl, List.replicate _ (.bl true), fun i d e hd he2 => ?_, List.length_replicate, by rw [pairs2_len]; simp; omega, ?_⟩
  · obtain ⟨x, y, hx, hy, rfl⟩ := pairs2_get hd
    have ee := List.eq_of_mem_replicate (List.mem_of_getElem? he2)
    subst ee
    rw [List.getElem?_map] at hx
    rw [List.getElem?_drop, List.getElem?_map] at hy
    obtain ⟨a, ha, rfl⟩ := Option.map_eq_some_iff.mp hx
    obtain ⟨b, hb, rfl⟩ := Option.map_eq_some_iff.mp hy
    have hasc : (es.map (·.1)).Pairwise (· < ·) := by
      have h := hr.asc
      unfold rsOf at h
      rw [List.map_map] at h
      exact h
    obtain ⟨i1, e1⟩ := List.getElem?_eq_some_iff.mp ha
    obtain ⟨i2, e2⟩ := List.getElem?_eq_some_iff.mp hb
    have lt : a < b := by
      have h := (List.pairwise_iff_getElem.mp hasc) i (1 + i) i1 i2 (by omega)
      rwa [e1, e2] at h
    refine tw_tup rfl (tws_cons (tw_name (by simp) (tws_cons (tw_name (by simp) (tws_nil ?_)))))
    walk_at "st"
    refine ⟨rfl, ?_⟩
    walk_at "st"
    refine bo_ltS ?_
    refine ⟨?_, rfl⟩
    show D.bl (decide ([a] < [b])) = D.bl true
    rw [decide_eq_true (List.cons_lt_cons_iff.mpr (.inl lt))]
  rw [← yes_bl]
  refine ea_nil (ca_all (.inl (.inl rfl)) ?_)
  rw [all_yes]
  walk_at "st"
  refine sw_for (ei_tup ?_)
  walk_at "st"
  refine ⟨fun i G' W' => W' = [] ∧ ∃ o2 o3, G' = [some (argR es), o1, o2, o3, some (D.lst (List.map (fun c => D.str (sg c)) (List.map (fun x => x.fst) es))), none, none, none], ⟨rfl, _, _, rfl⟩, ?_, ?_⟩
  · rintro i d G' W' hdd ⟨rfl, o2, o3, rfl⟩
    rw [List.getElem?_map] at hdd
    obtain ⟨e, he1, rfl⟩ := Option.map_eq_some_iff.mp hdd
    have hm := List.mem_of_getElem? he1
    have hb := hr.bare (e.1, e.2.2) (List.mem_map.mpr ⟨e, hm, rfl⟩)
    refine tg_tup rfl (tgs_cons (tg_name (tgs_cons (tg_name (tgs_nil ?_)))))
    walk_at "st"
    refine ev_lcM (ei_str ?_)
    walk_at "st"
    refine hand0 ⟨e.2.1, e.2.2, rfl, rfl, he e hm, ?_⟩
    try simp only [List.nil_append]
    try walk_at "st"
    have hol : e.2.2.outer.length ≤ 58 := Fm.outer_len (hr.form (e.1, e.2.2) (List.mem_map.mpr ⟨e, hm, rfl⟩)).1
    refine ⟨(List.replicate (lets e.2.2.outer).length false).map .bl, fun j d e3 hd he3 => ?_, by simp [lets], by rw [List.length_map, List.length_replicate, ← str_lets]; omega, ?_⟩
    · rw [List.getElem?_map] at hd he3
      obtain ⟨c, hc, rfl⟩ := Option.map_eq_some_iff.mp hd
      obtain ⟨b, hb3, rfl⟩ := Option.map_eq_some_iff.mp he3
      obtain rfl := List.eq_of_mem_replicate (List.mem_of_getElem? hb3)
      have hcm : c ∉ es.map (·.1) := by
        have h := hb c (List.mem_of_getElem? hc)
        unfold rsOf at h
        rw [List.map_map] at h
        exact h
      refine tw_name (by simp) ?_
      walk_at "st"
      refine ⟨rfl, ?_⟩
      walk_at "st"
      refine bo_in (neg := false) (xs := ((es.map (·.1)).map sg).map V.str) (.inl (.inl (.inl (by simp only [List.map_map]; rfl)))) rfl (by simp [flatV]) ?_
      rw [inV_str]
      simp only [Bool.false_eq_true, if_false]
      refine ⟨?_, trivial⟩
      rw [decide_eq_false]
      intro hx
      obtain ⟨x, hx1, hx2⟩ := List.mem_map.mp hx
      exact hcm (sg_inj (b := c) hx2 ▸ hx1)
    refine ea_nil (ca_any (.inl (.inl rfl)) ?_)
    rw [rep_anyR]
    refine ⟨_, rfl, ?_⟩
    refine if_not rfl ?_
    refine sw_next ?_
    exact ⟨rfl, _, _, rfl⟩
  rintro G' W' ⟨rfl, o2, o3, rfl⟩
  walk_at "st"
  exact k
abbrev s_Rules___init__ : Stmt := inClass (top 42) 0
theorem sc_Rules___init__ : FnScope ["self", "rows", "mark", "value"] ["self", "rows"] (defScope s_Rules___init__) := ⟨rfl, rfl, rfl, by decide +kernel, rfl, by decide +kernel, by decide +kernel⟩
theorem m_Rules {P : Program} {w : World} {K : PySem.W.Frag} {mg : Str → Option Value} {base : Heap} {cl : Nat → Addr} {f : Addr} {fd : FuncData} (mk : Mk K (cl 3) f) (B : Blt mg) (Z : ZZ K w mg cl) (Fn : Fun K "__init__" "Rules.__init__" s_Rules___init__ f fd)
    (c_check_rows : Cal P w K mg base 6 "check_rows" (spN FK ⟨K, cl⟩ S_checkrows) [])
    (c_as_formula : Cal P w K mg base 5 "as_formula" (spN FK ⟨K, cl⟩ S_opd) []) : Mak P w K mg base 7 "Rules" (cl 3) (spN FK ⟨K, cl⟩ S_initRu) [] := by
  have fz := Z.z0
  refine makD mk Z.g_Rules Fn sc_Rules___init__ (by intro ds W post h; first | (obtain ⟨rfl, _⟩ := h; rfl) | (obtain ⟨_, rfl, _⟩ := h; rfl) | (obtain ⟨_, _, rfl, _⟩ := h; rfl) | (obtain ⟨_, _, _, rfl, _⟩ := h; rfl) | (obtain ⟨_, _, _, _, rfl, _⟩ := h; rfl) | (obtain ⟨_, _, _, _, _, rfl, _⟩ := h; rfl) | (obtain ⟨_, _, _, _, _, _, rfl, _⟩ := h; rfl) | (obtain ⟨_, _, _, _, _, _, _, rfl, _⟩ := h; rfl) | (obtain ⟨_, _, _, _, _, _, _, _, rfl, _⟩ := h; rfl) | (obtain ⟨_, _, _, _, _, _, _, _, _, rfl, _⟩ := h; rfl) | (obtain ⟨_, _, _, _, _, _, _, _, _, _, rfl, _⟩ := h; rfl) | (obtain ⟨_, _, _, _, _, _, _, _, _, _, _, rfl, _⟩ := h; rfl)) (fun _ _ _ _ _ _ us hl => match us, hl with | [_, _], _ => rfl) fun cdv A outer s H E hr => ⟨_, pss_cons (ps_expr (pe_c c_check_rows hr (by omega) (by rfl) (pa_cons (pv 1) pa_nil)))
 (pss_tupdict (by rfl) B.tuple (by rfl) B.dict rfl (pe_lc (own := [("mark", 2), ("value", 3)]) (by rfl) sc_Rules___init__.nd (pi_tup (pv 1)) (blkOk_by (own := [("mark", 2), ("value", 3)]) (N := ["self", "rows", "mark", "value"]) (sc := defScope s_Rules___init__) (by decide +kernel)) (fun _ _ _ _ _ => (pg_tupK (K := K) rfl (n := 2) rfl (pgs_cons (pg_name (i := 2) sc_Rules___init__.nd rfl (Or.inl rfl)) (pgs_cons (pg_name (i := 3) sc_Rules___init__.nd rfl (Or.inl rfl)) pgs_nil)))) (fun _ _ _ _ _ => pts_nil) (fun _ _ _ _ _ => (pe_tup (pa_cons (pv 2) (pa_cons (pe_c c_as_formula hr (by omega) (by rfl) (pa_cons (pv 3) pa_nil)) pa_nil))))) (pv 0) (pv 0) (pv 0) (pss_nil) rfl rfl rfl), ?_⟩
  rintro ds W post ⟨x, es, rfl, rfl, he, hr, k⟩
  try dsimp only [cxOf, Cx.nox, Cx.wish]
  have h16 := sizeLine_eq
  walk_at "st"
  refine hand0 ⟨es, rfl, rfl, he, hr, ?_⟩
  try simp only [List.nil_append]
  try walk_at "st"
  refine sw_seq (sw_tupdict (ev_lcM (ei_tup ?_)))
  walk_at "st"
  refine ⟨(rsOf es).map fun p => .tup [.str (sg p.1), .fm p.2], fun i d e hd he2 => ?_, by simp [rsOf], by have := hr.few; rw [List.length_map]; omega, ?_⟩
  · rw [List.getElem?_map] at hd
    obtain ⟨q, hq, rfl⟩ := Option.map_eq_some_iff.mp hd
    unfold rsOf at he2
    rw [List.map_map, List.getElem?_map, hq] at he2
    obtain rfl := Option.some.inj he2
    refine tw_tup rfl (tws_cons (tw_name (by simp) (tws_cons (tw_name (by simp) (tws_nil ?_)))))
    walk_at "st"
    refine ⟨rfl, ?_⟩
    walk_at "st"
    refine hand0 ⟨q.2.1, q.2.2, rfl, rfl, he q (List.mem_of_getElem? hq), ?_⟩
    try simp only [List.nil_append]
    try walk_at "st"
    walk_at "st"
    exact ⟨rfl, rfl⟩
  refine ⟨x, 3, [], [], [], [], rlPs (rsOf es), rfl, rfl, congrArg D.lst (rlPs_pairs _).symm, Z.z3.cls, Z.z3.nos _ (by decide +kernel), Z.z3.nos _ (by decide +kernel), by decide, by decide, by decide, ?_⟩
  rw [rlPs_merge hr, rlPs_pairs]
  refine sw_next ?_
  refine sw_next ?_
  exact k
abbrev s_Rules_marks : Stmt := inClass (top 42) 1
theorem sc_Rules_marks : FnScope ["self"] ["self"] (defScope s_Rules_marks) := ⟨rfl, rfl, rfl, by decide +kernel, rfl, by decide +kernel, by decide +kernel⟩
theorem p_marks3 {P : Program} {w : World} {K : PySem.W.Frag} {mg : Str → Option Value} {base : Heap} {cl : Nat → Addr} {f : Addr} {fd : FuncData} {p : Addr} (o : PropOf K (cl 3) "marks" p f) (B : Blt mg) (Z : ZZ K w mg cl) (Fn : Fun K "marks" "Rules.marks" s_Rules_marks f fd) : Prp P w K mg base 1 (cl 3) "marks" (spN FK ⟨K, cl⟩ S_marksRu) := by
  have fz := Z.z0
  refine prpD o Fn sc_Rules_marks (by intro ds W post h; first | (obtain ⟨rfl, _⟩ := h; rfl) | (obtain ⟨_, rfl, _⟩ := h; rfl) | (obtain ⟨_, _, rfl, _⟩ := h; rfl) | (obtain ⟨_, _, _, rfl, _⟩ := h; rfl) | (obtain ⟨_, _, _, _, rfl, _⟩ := h; rfl) | (obtain ⟨_, _, _, _, _, rfl, _⟩ := h; rfl) | (obtain ⟨_, _, _, _, _, _, rfl, _⟩ := h; rfl) | (obtain ⟨_, _, _, _, _, _, _, rfl, _⟩ := h; rfl) | (obtain ⟨_, _, _, _, _, _, _, _, rfl, _⟩ := h; rfl) | (obtain ⟨_, _, _, _, _, _, _, _, _, rfl, _⟩ := h; rfl) | (obtain ⟨_, _, _, _, _, _, _, _, _, _, rfl, _⟩ := h; rfl) | (obtain ⟨_, _, _, _, _, _, _, _, _, _, _, rfl, _⟩ := h; rfl)) (fun _ _ _ _ _ _ us hl => match us, hl with | [_], _ => rfl) fun cdv A outer s H E hr => ⟨_, pss_one (ps_ret (pe_join pe_str (pe_callTy (cr_listDk rfl) (by rfl) B.list bt_list (pa_cons (pe_fld (pv 0) rfl) pa_nil)))), ?_⟩
  rintro ds W post ⟨rs, rfl, rfl, hr, k⟩
  try dsimp only [cxOf, Cx.nox, Cx.wish]
  have hf := hr.few
  refine sw_ret (ev_join ?_)
  refine ev_c ?_
  refine ⟨"", rfl, ?_⟩
  refine ev_cb (ea_cons (ev_fld ?_))
  refine ev_var rfl ?_
  refine ⟨3, rlNames, _, _, .obj _ _ _, Z.z3.cls, Z.z3.nos _ (by decide +kernel), rfl, ?_⟩
  refine ea_nil (ca_listDk (ps := rlPs rs) (.inl rfl) ?_)
  refine ⟨(rs.map (·.1)).map sg, .inl (.inl (.inl (by unfold rlPs; rw [List.map_map, List.map_map, List.map_map]; rfl))), ?_, ?_⟩
  · rw [sg_sumR, List.length_map]
    show _ + _ * 0 ≤ _
    omega
  · rw [join_nil_sg]
    exact k
abbrev s_Rules___getitem__ : Stmt := inClass (top 42) 2
theorem sc_Rules___getitem__ : FnScope ["self", "mark"] ["self", "mark"] (defScope s_Rules___getitem__) := ⟨rfl, rfl, rfl, by decide +kernel, rfl, by decide +kernel, by decide +kernel⟩
theorem o_getitem3 {P : Program} {w : World} {K : PySem.W.Frag} {mg : Str → Option Value} {base : Heap} {cl : Nat → Addr} {f : Addr} {fd : FuncData} (o : Own2 K (cl 3) "__getitem__" f) (B : Blt mg) (Z : ZZ K w mg cl) (Fn : Fun K "__getitem__" "Rules.__getitem__" s_Rules___getitem__ f fd)
    (c_is_mark : Cal P w K mg base 2 "is_mark" (spN FK ⟨K, cl⟩ S_ismarkN) []) : Opi P w K mg base 3 (cl 3) "__getitem__" (spN FK ⟨K, cl⟩ S_getRu) := by
  have fz := Z.z0
  refine opiD o Fn sc_Rules___getitem__ (by intro ds W post h; first | (obtain ⟨rfl, _⟩ := h; rfl) | (obtain ⟨_, rfl, _⟩ := h; rfl) | (obtain ⟨_, _, rfl, _⟩ := h; rfl) | (obtain ⟨_, _, _, rfl, _⟩ := h; rfl) | (obtain ⟨_, _, _, _, rfl, _⟩ := h; rfl) | (obtain ⟨_, _, _, _, _, rfl, _⟩ := h; rfl) | (obtain ⟨_, _, _, _, _, _, rfl, _⟩ := h; rfl) | (obtain ⟨_, _, _, _, _, _, _, rfl, _⟩ := h; rfl) | (obtain ⟨_, _, _, _, _, _, _, _, rfl, _⟩ := h; rfl) | (obtain ⟨_, _, _, _, _, _, _, _, _, rfl, _⟩ := h; rfl) | (obtain ⟨_, _, _, _, _, _, _, _, _, _, rfl, _⟩ := h; rfl) | (obtain ⟨_, _, _, _, _, _, _, _, _, _, _, rfl, _⟩ := h; rfl)) (fun _ _ _ _ _ _ us hl => match us, hl with | [_, _], _ => rfl) fun cdv A outer s H E hr => ⟨_, pss_cons (ps_if (PW.pt (pw_or (pt_not (pt_val (pe_c c_is_mark hr (by omega) (by rfl) (pa_cons (pv 1) pa_nil)))) (pw_or1 (pt_cmp (pc_dnotin (by exact hu_of hr) (pv 1) (pe_fld (pv 0) rfl)))))) (pss_one (ps_never)) (pss_nil))
 (pss_one (ps_ret (pe_dget (by exact hu_of hr) (pe_fld (pv 0) rfl) (pv 1) (fun _ _ => rfl)))), ?_⟩
  rintro ds W post ⟨rs, x, rfl, rfl, hr, hx, k⟩
  try dsimp only [cxOf, Cx.nox, Cx.wish]
  have hc := hr.cap x hx
  have nd : (rs.map (·.1)).Nodup := hr.asc.imp (S := (· ≠ ·)) fun h => Nat.ne_of_lt h
  have hg : getG (rlPs rs) (Sum.inr (sg x.1)) = some (.fm x.2) := by
    show getG (tabL D.fm rs) _ = _
    exact getG_tabL (f := D.fm) (x := x.2) nd hx
  walk_at "st"
  refine hand0 ⟨_, rfl, rfl, .inl ⟨_, rfl, Nat.le_of_ble_eq_true rfl, ?_⟩⟩
  try simp only [List.nil_append]
  try walk_at "st"
  rw [isCap_sg hc.1 hc.2]
  try refine if_not (by first | rfl | decide +kernel | simp) ?_
  try walk_at "st"
  walk_at "st"
  refine ev_dnotin ?_
  refine ev_var rfl ?_
  refine ev_flR Z.z3 (ev_var rfl ?_)
  refine ⟨rs, rfl, .inr ⟨rfl, ?_⟩⟩
  refine ⟨rlPs rs, Sum.inr (sg x.1), .inl rfl, rfl, ?_⟩
  rw [hg]
  refine ⟨_, rfl, ?_⟩
  refine if_not rfl ?_
  refine sw_next ?_
  refine sw_ret (ev_dget (ev_flR Z.z3 (ev_var rfl ?_)))
  refine ⟨rs, rfl, .inr ⟨rfl, ?_⟩⟩
  refine ev_var rfl ?_
  exact ⟨rlPs rs, Sum.inr (sg x.1), _, .inl rfl, rfl, hg, k⟩
end
section
abbrev s_BadRules___init__ : Stmt := inClass (top 5) 0
theorem sc_BadRules___init__ : FnScope ["self", "part"] ["self", "part"] (defScope s_BadRules___init__) := ⟨rfl, rfl, rfl, by decide +kernel, rfl, by decide +kernel, by decide +kernel⟩
theorem e_BadRules {P : Program} {w : World} {K : PySem.W.Frag} {mg : Str → Option Value} {base : Heap} {cl : Nat → Addr} {f : Addr} {fd : FuncData} {BW : Addr} (iC : PySem.W.findIn K (.ref (cl 33)) "__init__" = some (some (.ref f))) (tI : PySem.W.typeIn K (.ref f) = some (.type "function")) (bw : BaseX K BW) (gw : mg "WebError" = some (.ref BW)) (Z : ZZ K w mg cl) (Fn : Fun K "__init__" "BadRules.__init__" s_BadRules___init__ f fd) : Err P w K mg base 1 "BadRules" (cl 33) "part" := by
  exact errD Z.x33 iC tI Z.g_BadRules Fn sc_BadRules___init__ rfl rfl (fun _ _ _ _ _ _ us hl => match us, hl with | [_, _], _ => rfl) fun cdv A outer s H E => ⟨_, pss_cons (ps_expr (pe_exinit bw (by rfl) gw (pa_cons (pv 0) (pa_cons pe_str pa_nil)))) (pss_one (ps_osx (pv 0) (pv 1) rfl))⟩
theorem cx_check_rows {P : Program} {w : World} {K : PySem.W.Frag} {mg : Str → Option Value} {base : Heap} {cl : Nat → Addr} {f : Addr} {fd : FuncData} (hm : mg "check_rows" = some (.ref f)) (B : Blt mg) (Z : ZZ K w mg cl) (Fn : Fun K "check_rows" "check_rows" s_check_rows f fd)
    (c_is_rule : Cal P w K mg base 3 "is_rule" (spN FK ⟨K, cl⟩ S_isruleN) [])
    (c_as_formula : Cal P w K mg base 5 "as_formula" (spN FK ⟨K, cl⟩ S_opd) [])
    (e_BadRules : Err P w K mg base 1 "BadRules" (cl 33) "part") : CalX P w K mg base 6 "check_rows" (spX FK ⟨K, cl⟩ (S_checkXO)) := by
  have fz := Z.z0
  refine calXD hm Fn sc_check_rows (by intro ds W post ex h; first | (obtain ⟨rfl, _⟩ := h; rfl) | (obtain ⟨_, rfl, _⟩ := h; rfl) | (obtain ⟨_, _, rfl, _⟩ := h; rfl) | (obtain ⟨_, _, _, rfl, _⟩ := h; rfl) | (obtain ⟨_, _, _, _, rfl, _⟩ := h; rfl) | (obtain ⟨_, _, _, _, _, rfl, _⟩ := h; rfl) | (obtain ⟨_, _, _, _, _, _, rfl, _⟩ := h; rfl) | (obtain ⟨_, _, _, _, _, _, _, rfl, _⟩ := h; rfl) | (obtain ⟨_, _, _, _, _, _, _, _, rfl, _⟩ := h; rfl) | (obtain ⟨_, _, _, _, _, _, _, _, _, rfl, _⟩ := h; rfl) | (obtain ⟨_, _, _, _, _, _, _, _, _, _, rfl, _⟩ := h; rfl) | (obtain ⟨_, _, _, _, _, _, _, _, _, _, _, rfl, _⟩ := h; rfl)) (fun _ _ _ _ _ _ us hl => match us, hl with | [_], _ => rfl) fun cdv A outer s H E hr => ⟨_, pss_cons (ps_if (PW.pt (pw_or (pt_not (pt_val (pe_callB call_isi (by rfl) B.isinstance bt_isinstance (pa_cons (pv 0) (pa_cons (pe_bltn (by rfl) B.tuple bt_tuple (relV_ty _)) pa_nil))))) (pw_or1 (pt_not (pt_chain op_le op_le pe_int (pe_callB call_len (by rfl) B.len bt_len (pa_cons (pv 0) pa_nil)) (C8.pe_gc (by rfl) Z.g_MOST_MARKS)))))) (pss_one (ps_raise rfl (takes_of rfl rfl rfl rfl) (pmk_err e_BadRules hr (by omega) (by rfl) (pa_cons (C8.pe_gc (by rfl) Z.g_ROWS) pa_nil)))) (pss_nil))
 (pss_cons (ps_for (passes_of rfl) rfl (pi_tup (pv 0)) (pg_name (i := 1) sc_check_rows.nd rfl (Or.inl rfl)) (pss_one (ps_if (pt_not (pt_val (pe_c c_is_rule hr (by omega) (by rfl) (pa_cons (pv 1) pa_nil)))) (pss_one (ps_raise rfl (takes_of rfl rfl rfl rfl) (pmk_err e_BadRules hr (by omega) (by rfl) (pa_cons (pv 1) pa_nil)))) (pss_nil))))
 (pss_cons (ps_set (i := 4) sc_check_rows.nd rfl (Or.inr rfl) (pe_lc (own := [("mark", 2), ("value", 3)]) (by rfl) sc_check_rows.nd (pi_tup (pv 0)) (blkOk_by (own := [("mark", 2), ("value", 3)]) (N := ["rows", "item", "mark", "value", "marks", "one", "other", "letter"]) (sc := defScope s_check_rows) (by decide +kernel)) (fun _ _ _ _ _ => (pg_tupK (K := K) rfl (n := 2) rfl (pgs_cons (pg_name (i := 2) sc_check_rows.nd rfl (Or.inl rfl)) (pgs_cons (pg_name (i := 3) sc_check_rows.nd rfl (Or.inl rfl)) pgs_nil)))) (fun _ _ _ _ _ => pts_nil) (fun _ _ _ _ _ => (pv 2))))
 (pss_cons (ps_if (pt_not (pt_val (pe_callB (cr_all rfl) (by rfl) B.all bt_all (pa_cons (pe_lc (own := [("one", 5), ("other", 6)]) (by rfl) sc_check_rows.nd (pi_zipK (by rfl) B.zip (pa_cons (pv 4) (pa_cons (pe_slice sl_list (pv 4) (po_some pe_int) po_none) pa_nil))) (blkOk_by (own := [("one", 5), ("other", 6)]) (N := ["rows", "item", "mark", "value", "marks", "one", "other", "letter"]) (sc := defScope s_check_rows) (by decide +kernel)) (fun _ _ _ _ _ => (pg_tupK (K := K) rfl (n := 2) rfl (pgs_cons (pg_name (i := 5) sc_check_rows.nd rfl (Or.inl rfl)) (pgs_cons (pg_name (i := 6) sc_check_rows.nd rfl (Or.inl rfl)) pgs_nil)))) (fun _ _ _ _ _ => pts_nil) (fun _ _ _ _ _ => (pe_cmpR op_lt_str (pv 5) (pv 6) (nomark _)))) pa_nil)))) (pss_one (ps_raise rfl (takes_of rfl rfl rfl rfl) (pmk_err e_BadRules hr (by omega) (by rfl) (pa_cons (C8.pe_gc (by rfl) Z.g_ORDER) pa_nil)))) (pss_nil))
 (pss_one (ps_for (passes_of rfl) rfl (pi_tup (pv 0)) (pg_tup (n := 2) rfl (pgs_cons (pg_name (i := 2) sc_check_rows.nd rfl (Or.inl rfl)) (pgs_cons (pg_name (i := 3) sc_check_rows.nd rfl (Or.inl rfl)) pgs_nil))) (pss_one (ps_if (pt_val (pe_callB (cr_any rfl) (by rfl) B.any bt_any (pa_cons (pe_lc (own := [("letter", 7)]) (by rfl) sc_check_rows.nd (pi_str (pe_fld (pe_c c_as_formula hr (by omega) (by rfl) (pa_cons (pv 3) pa_nil)) rfl)) (blkOk_by (own := [("letter", 7)]) (N := ["rows", "item", "mark", "value", "marks", "one", "other", "letter"]) (sc := defScope s_check_rows) (by decide +kernel)) (fun _ _ _ _ _ => (pg_name (i := 7) sc_check_rows.nd rfl (Or.inl rfl))) (fun _ _ _ _ _ => pts_nil) (fun _ _ _ _ _ => (pe_cmpR (op_in_seqK (K := K) rfl) (pv 7) (pv 4) rfl))) pa_nil))) (pss_one (ps_raise rfl (takes_of rfl rfl rfl rfl) (pmk_err e_BadRules hr (by omega) (by rfl) (pa_cons (pv 2) pa_nil)))) (pss_nil)))))))), ?_⟩
  rintro ds W post ex ⟨j, g, rfl, rfl, hj, ho, hl, k, kx⟩
  try dsimp only [cxOf, Cx.nox, Cx.wish]
  have h16 := sizeLine_eq
  walk_at "st"
  rcases Nat.eq_zero_or_pos j.length with h0 | h0
  · refine if_not (decide_eq_false (by rw [List.length_map]; omega)) ?_
    walk_at "st"
    exact fun d hd => kx "rows" (by unfold rlErr; rw [if_pos (.inl h0)]) d
  refine if_so (decide_eq_true (by rw [List.length_map]; omega)) ?_
  walk_at "st"
  rcases Nat.lt_or_ge 4 j.length with h4 | h4
  · refine if_so (by rw [decide_eq_false (show ¬ _ ≤ _ from by rw [List.length_map]; omega)]; rfl) ?_
    walk_at "st"
    exact fun d hd => kx "rows" (by unfold rlErr; rw [if_pos (.inr h4)]) d
  refine if_not (by rw [decide_eq_true (show _ ≤ _ from by rw [List.length_map]; omega)]; rfl) ?_
  refine swx_next ?_
  refine swx_seq (swx_for (ei_tup ?_))
  walk_at "st"
  refine ⟨fun i G' W' => W' = [] ∧ ∃ o1, G' = [some (rowsO g j), o1, none, none, none, none, none, none], ⟨rfl, _, rfl⟩, ?_, ?_⟩
  · rintro i d G' W' hdd ⟨rfl, o1, rfl⟩
    rw [List.getElem?_map] at hdd
    obtain ⟨e, he1, rfl⟩ := Option.map_eq_some_iff.mp hdd
    have hm := List.mem_of_getElem? he1
    refine tg_name ?_
    walk_at "st"
    refine hand0 ⟨_, _, rfl, rfl, .inl ⟨e.1, e.2, rfl, (hj.cap e hm).1, (hj.cap e hm).2, ho e hm, ?_⟩⟩
    try simp only [List.nil_append]
    try walk_at "st"
    exact ⟨rfl, _, rfl⟩
  rintro G' W' ⟨rfl, o1, rfl⟩
  walk_at "st"
  refine ev_lcM (ei_tup ?_)
  walk_at "st"
  refine ⟨(j.map (·.1)).map fun c => .str (sg c), fun i d e hd he2 => ?_, by simp, by simp only [List.length_map]; omega, ?_⟩
  · rw [List.getElem?_map] at hd
    obtain ⟨q, hq, rfl⟩ := Option.map_eq_some_iff.mp hd
    rw [List.map_map, List.getElem?_map, hq] at he2
    obtain rfl := Option.some.inj he2
    refine tw_tup rfl (tws_cons (tw_name (by simp) (tws_cons (tw_name (by simp) (tws_nil ?_)))))
    walk_at "st"
    refine ⟨rfl, ?_⟩
    walk_at "st"
    exact ⟨rfl, rfl⟩
  walk_at "st"
  refine ev_lcM (ei_zipK ?_)
  walk_at "st"
  rw [cutD_d1]
  refine ⟨_, _, _, _, rfl, .inl rfl, .inl rfl, List.replicate _ (.bl true), fun i d e hd he2 => ?_, List.length_replicate, by rw [pairs2_len]; simp; omega, ?_⟩
  · obtain ⟨x, y, hx, hy, rfl⟩ := pairs2_get hd
    have ee := List.eq_of_mem_replicate (List.mem_of_getElem? he2)
    subst ee
    rw [List.getElem?_map] at hx
    rw [List.getElem?_drop, List.getElem?_map] at hy
    obtain ⟨a, ha, rfl⟩ := Option.map_eq_some_iff.mp hx
    obtain ⟨b, hb, rfl⟩ := Option.map_eq_some_iff.mp hy
    obtain ⟨i1, e1⟩ := List.getElem?_eq_some_iff.mp ha
    obtain ⟨i2, e2⟩ := List.getElem?_eq_some_iff.mp hb
    have lt : a < b := by
      have h := (List.pairwise_iff_getElem.mp hj.asc) i (1 + i) i1 i2 (by omega)
      rwa [e1, e2] at h
    refine tw_tup rfl (tws_cons (tw_name (by simp) (tws_cons (tw_name (by simp) (tws_nil ?_)))))
    walk_at "st"
    refine ⟨rfl, ?_⟩
    walk_at "st"
    refine bo_ltS ?_
    refine ⟨?_, rfl⟩
    show D.bl (decide ([a] < [b])) = D.bl true
    rw [decide_eq_true (List.cons_lt_cons_iff.mpr (.inl lt))]
  rw [← yes_bl]
  refine ea_nil (ca_all (.inl (.inl rfl)) ?_)
  rw [all_yes]
  walk_at "st"
  refine swx_for (ei_tup ?_)
  walk_at "st"
  refine ⟨fun i G' W' => W' = [] ∧ (∀ p ∈ j.take i, bentR j p.2 = false) ∧ ∃ o2 o3, G' = [some (rowsO g j), o1, o2, o3, some (D.lst (List.map (fun c => D.str (sg c)) (List.map (fun x => x.fst) j))), none, none, none], ⟨rfl, (fun p hp => by rw [List.take_zero] at hp; cases hp), _, _, rfl⟩, ?_, ?_⟩
  · rintro i d G' W' hdd ⟨rfl, hno, o2, o3, rfl⟩
    rw [List.getElem?_map] at hdd
    obtain ⟨e, he1, rfl⟩ := Option.map_eq_some_iff.mp hdd
    have hm := List.mem_of_getElem? he1
    have hi := (List.getElem?_eq_some_iff.mp he1).1
    refine tg_tup rfl (tgs_cons (tg_name (tgs_cons (tg_name (tgs_nil ?_)))))
    walk_at "st"
    refine ev_lcM (ei_str ?_)
    walk_at "st"
    refine hand0 ⟨_, e.2, rfl, rfl, ho e hm, ?_⟩
    try simp only [List.nil_append]
    try walk_at "st"
    have hol : e.2.outer.length ≤ 58 := Fm.outer_len (hj.form e hm).1
    refine ⟨((lets e.2.outer).map fun c => decide (c ∈ j.map (·.1))).map .bl, fun t d e3 hd he3 => ?_, by simp [lets], by rw [List.length_map, List.length_map, ← str_lets]; omega, ?_⟩
    · rw [List.getElem?_map] at hd
      rw [List.map_map, List.getElem?_map] at he3
      obtain ⟨c, hc, rfl⟩ := Option.map_eq_some_iff.mp hd
      rw [show (lets e.2.outer)[t]? = some c from hc] at he3
      obtain rfl := Option.some.inj he3
      refine tw_name (by simp) ?_
      walk_at "st"
      refine ⟨rfl, ?_⟩
      walk_at "st"
      refine bo_in (neg := false) (xs := ((j.map (·.1)).map sg).map V.str) (.inl (.inl (.inl (by simp only [List.map_map]; rfl)))) rfl (by simp [flatV]) ?_
      rw [inV_str]
      simp only [Bool.false_eq_true, if_false]
      refine ⟨?_, trivial⟩
      refine congrArg D.bl (decide_eq_decide.mpr ⟨fun hx => ?_, fun hx => List.mem_map.mpr ⟨c, hx, rfl⟩⟩)
      obtain ⟨x, hx1, hx2⟩ := List.mem_map.mp hx
      rw [← sg_inj (a := x) (b := c) hx2]
      exact hx1
    refine ea_nil (ca_any (.inl (.inl rfl)) ?_)
    have eb : (((lets e.2.outer).map fun c => decide (c ∈ j.map (·.1))).any id) = bentR j e.2 := by
      unfold bentR
      rw [List.any_map]
      rfl
    rw [eb]
    refine ⟨_, rfl, ?_⟩
    cases hbe : bentR j e.2 with
    | true =>
      refine if_so rfl ?_
      walk_at "st"
      refine fun d hd => kx (sg e.1) ?_ d
      unfold rlErr
      rw [if_neg (by omega), find_at he1 hbe hno]
      rfl
    | false =>
      refine if_not rfl ?_
      refine swx_next ?_
      refine ⟨rfl, fun p hp => ?_, _, _, rfl⟩
      rw [List.take_add_one, he1] at hp
      rcases List.mem_append.mp hp with h | h
      · exact hno p h
      · have h : p ∈ [e] := h
        rw [List.mem_singleton] at h
        rw [h]
        exact hbe
  rintro G' W' ⟨rfl, hno, o2, o3, rfl⟩
  rw [List.length_map, List.take_length] at hno
  walk_at "st"
  refine k ?_
  unfold rlErr
  rw [if_neg (by omega), Option.map_eq_none_iff, List.find?_eq_none]
  intro p hp
  rw [hno p hp]
  decide
theorem mx_Rules {P : Program} {w : World} {K : PySem.W.Frag} {mg : Str → Option Value} {base : Heap} {cl : Nat → Addr} {f : Addr} {fd : FuncData} (mk : Mk K (cl 3) f) (B : Blt mg) (Z : ZZ K w mg cl) (Fn : Fun K "__init__" "Rules.__init__" s_Rules___init__ f fd)
    (cx_check_rows : CalX P w K mg base 6 "check_rows" (spX FK ⟨K, cl⟩ (S_checkXO)))
    (c_as_formula : Cal P w K mg base 5 "as_formula" (spN FK ⟨K, cl⟩ S_opd) []) : MakX P w K mg base 7 "Rules" (cl 3) 1 ["rows"] (fun vs zs => vs ++ zs) (spX FK ⟨K, cl⟩ (S_initXO)) := by
  have fz := Z.z0
  refine makXD (S := S_initXO) (ks := ["rows"]) (gV := fun vs zs => vs ++ zs) mk Z.g_Rules Fn sc_Rules___init__ (by intro ds W post ex h; first | (obtain ⟨rfl, _⟩ := h; rfl) | (obtain ⟨_, rfl, _⟩ := h; rfl) | (obtain ⟨_, _, rfl, _⟩ := h; rfl) | (obtain ⟨_, _, _, rfl, _⟩ := h; rfl) | (obtain ⟨_, _, _, _, rfl, _⟩ := h; rfl) | (obtain ⟨_, _, _, _, _, rfl, _⟩ := h; rfl) | (obtain ⟨_, _, _, _, _, _, rfl, _⟩ := h; rfl) | (obtain ⟨_, _, _, _, _, _, _, rfl, _⟩ := h; rfl) | (obtain ⟨_, _, _, _, _, _, _, _, rfl, _⟩ := h; rfl) | (obtain ⟨_, _, _, _, _, _, _, _, _, rfl, _⟩ := h; rfl) | (obtain ⟨_, _, _, _, _, _, _, _, _, _, rfl, _⟩ := h; rfl) | (obtain ⟨_, _, _, _, _, _, _, _, _, _, _, rfl, _⟩ := h; rfl)) (fun _ _ _ _ _ _ us hl => match us, hl with | [_, _], _ => rfl) (kb1_of (g := fun us ws => us ++ ws) Fn (fun _ _ _ _ _ _ u ws hl => match ws, hl with | [_], _ => rfl) (fun h1 h2 => by first | exact h1.append h2 | exact h1.append h2.reverse)) fun cdv A outer s H E hr => ⟨_, pss_cons (ps_expr (pe_cX cx_check_rows hr (by omega) (by rfl) (takes_of rfl rfl rfl rfl) (pa_cons (pv 1) pa_nil)))
 (pss_tupdict (by rfl) B.tuple (by rfl) B.dict rfl (pe_lc (own := [("mark", 2), ("value", 3)]) (by rfl) sc_Rules___init__.nd (pi_tup (pv 1)) (blkOk_by (own := [("mark", 2), ("value", 3)]) (N := ["self", "rows", "mark", "value"]) (sc := defScope s_Rules___init__) (by decide +kernel)) (fun _ _ _ _ _ => (pg_tupK (K := K) rfl (n := 2) rfl (pgs_cons (pg_name (i := 2) sc_Rules___init__.nd rfl (Or.inl rfl)) (pgs_cons (pg_name (i := 3) sc_Rules___init__.nd rfl (Or.inl rfl)) pgs_nil)))) (fun _ _ _ _ _ => pts_nil) (fun _ _ _ _ _ => (pe_tup (pa_cons (pv 2) (pa_cons (pe_c c_as_formula hr (by omega) (by rfl) (pa_cons (pv 3) pa_nil)) pa_nil))))) (pv 0) (pv 0) (pv 0) (pss_nil) rfl rfl rfl), ?_⟩
  rintro ds W post ex ⟨x, j, g, rfl, rfl, hj, ho, hl, k, kx⟩
  try dsimp only [cxOf, Cx.nox, Cx.wish]
  have h16 := sizeLine_eq
  walk_at "st"
  refine handX0 ⟨j, g, rfl, rfl, hj, ho, hl, fun e => ?_, fun s e d => ?_⟩
  case refine_2 => exact kx s e d
  have k := k e
  try simp only [List.nil_append]
  refine swx_seq (swx_of (sw_tupdict (ev_lcM (ei_tup ?_))))
  walk_at "st"
  refine ⟨j.map fun p => .tup [.str (sg p.1), .fm p.2], fun i d e hd he2 => ?_, by simp, by rw [List.length_map]; omega, ?_⟩
  · rw [List.getElem?_map] at hd
    obtain ⟨q, hq, rfl⟩ := Option.map_eq_some_iff.mp hd
    rw [List.getElem?_map, hq] at he2
    obtain rfl := Option.some.inj he2
    refine tw_tup rfl (tws_cons (tw_name (by simp) (tws_cons (tw_name (by simp) (tws_nil ?_)))))
    walk_at "st"
    refine ⟨rfl, ?_⟩
    walk_at "st"
    refine hand0 ⟨_, q.2, rfl, rfl, ho q (List.mem_of_getElem? hq), ?_⟩
    try simp only [List.nil_append]
    try walk_at "st"
    walk_at "st"
    exact ⟨rfl, rfl⟩
  refine ⟨x, 3, [], [], [], [], rlPs j, rfl, rfl, congrArg D.lst (rlPs_pairs _).symm, Z.z3.cls, Z.z3.nos _ (by decide +kernel), Z.z3.nos _ (by decide +kernel), by decide, by decide, by decide, ?_⟩
  rw [rlPs_mergeA hj, rlPs_pairs]
  refine swx_next ?_
  exact k
abbrev s_rows_by : Stmt := top 41
theorem sc_rows_by : FnScope ["forms", "mark"] ["forms"] (defScope s_rows_by) := ⟨rfl, rfl, rfl, by decide +kernel, rfl, by decide +kernel, by decide +kernel⟩
theorem c_rows_by {P : Program} {w : World} {K : PySem.W.Frag} {mg : Str → Option Value} {base : Heap} {cl : Nat → Addr} {f : Addr} {fd : FuncData} (hm : mg "rows_by" = some (.ref f)) (B : Blt mg) (Z : ZZ K w mg cl) (Fn : Fun K "rows_by" "rows_by" s_rows_by f fd) : Cal P w K mg base 1 "rows_by" (spN FK ⟨K, cl⟩ S_rowsbyO) [] := by
  have fz := Z.z0
  refine calD hm Fn sc_rows_by (by intro ds W post h; first | (obtain ⟨rfl, _⟩ := h; rfl) | (obtain ⟨_, rfl, _⟩ := h; rfl) | (obtain ⟨_, _, rfl, _⟩ := h; rfl) | (obtain ⟨_, _, _, rfl, _⟩ := h; rfl) | (obtain ⟨_, _, _, _, rfl, _⟩ := h; rfl) | (obtain ⟨_, _, _, _, _, rfl, _⟩ := h; rfl) | (obtain ⟨_, _, _, _, _, _, rfl, _⟩ := h; rfl) | (obtain ⟨_, _, _, _, _, _, _, rfl, _⟩ := h; rfl) | (obtain ⟨_, _, _, _, _, _, _, _, rfl, _⟩ := h; rfl) | (obtain ⟨_, _, _, _, _, _, _, _, _, rfl, _⟩ := h; rfl) | (obtain ⟨_, _, _, _, _, _, _, _, _, _, rfl, _⟩ := h; rfl) | (obtain ⟨_, _, _, _, _, _, _, _, _, _, _, rfl, _⟩ := h; rfl)) (fun _ _ _ _ _ _ us hl => match us, hl with | [_], _ => rfl) fun cdv A outer s H E hr => ⟨_, pss_one (ps_ret (pe_callTy call_tuple_of (by rfl) B.tuple bt_tuple (pa_cons (pe_lc (own := [("mark", 1)]) (by rfl) sc_rows_by.nd (pi_list (pe_callB cr_sortedS (by rfl) B.sorted bt_sorted (pa_cons (pe_callTy (cr_listDk rfl) (by rfl) B.list bt_list (pa_cons (pv 0) pa_nil)) pa_nil))) (blkOk_by (own := [("mark", 1)]) (N := ["forms", "mark"]) (sc := defScope s_rows_by) (by decide +kernel)) (fun _ _ _ _ _ => (pg_name (i := 1) sc_rows_by.nd rfl (Or.inl rfl))) (fun _ _ _ _ _ => pts_nil) (fun _ _ _ _ _ => (pe_tup (pa_cons (pv 1) (pa_cons (pe_dget (by exact hu_of hr) (pv 0) (pv 1) (fun _ _ => rfl)) pa_nil))))) pa_nil))), ?_⟩
  rintro ds W post ⟨q, l, g, rfl, rfl, nd, hl, k⟩
  try dsimp only [cxOf, Cx.nox, Cx.wish]
  have h16 := sizeLine_eq
  have hla := low_ascN (l.map (·.1))
  rw [List.length_map] at hla
  refine sw_ret (ev_drp ?_)
  walk_at "st"
  refine ev_lcM (ei_list ?_)
  walk_at "st"
  refine ca_listDk (ps := tabO g l) (.inr ⟨q, rfl, List.mem_cons_self⟩) ?_
  refine ea_nil (ca_sortedSL (ns := l.map (·.1)) (.inl (.inl (congrArg D.lst (by unfold tabO; rw [List.map_map, List.map_map]; rfl)))) nd (by rw [List.length_map]; omega) ?_)
  walk_at "st"
  refine ⟨(srtR l).map fun p => .tup [.str (sg p.1), g p.1], fun i d e hd he => ?_, by unfold srtR; simp, by rw [List.length_map]; unfold srtR; rw [List.length_map]; omega, ?_⟩
  · rw [List.getElem?_map] at hd
    obtain ⟨c, hc, rfl⟩ := Option.map_eq_some_iff.mp hd
    unfold srtR at he
    rw [List.map_map, List.getElem?_map, hc] at he
    obtain rfl := Option.some.inj he
    have hmem := mem_ascN.mp (List.mem_of_getElem? hc)
    refine tw_name (by simp) ?_
    walk_at "st"
    refine ⟨rfl, ?_⟩
    walk_at "st"
    refine ⟨_, Sum.inr (sg c), g c, .inr ⟨q, rfl, List.mem_cons_self⟩, rfl, getG_tabO hmem, ?_⟩
    walk_at "st"
    exact ⟨rfl, rfl⟩
  refine ea_nil (ca_tup (.inl (.inl rfl)) ?_)
  exact ⟨[], List.nil_sublist _, k⟩
end
section
abbrev s_Rules___len__ : Stmt := inClass (top 42) 3
theorem sc_Rules___len__ : FnScope ["self"] ["self"] (defScope s_Rules___len__) := ⟨rfl, rfl, rfl, by decide +kernel, rfl, by decide +kernel, by decide +kernel⟩
theorem o_len3 {P : Program} {w : World} {K : PySem.W.Frag} {mg : Str → Option Value} {base : Heap} {cl : Nat → Addr} {f : Addr} {fd : FuncData} (o : Own2 K (cl 3) "__len__" f) (B : Blt mg) (Z : ZZ K w mg cl) (Fn : Fun K "__len__" "Rules.__len__" s_Rules___len__ f fd) : Opn P w K mg base 1 (cl 3) "__len__" (spN FK ⟨K, cl⟩ S_lenRu) := by
  have fz := Z.z0
  refine opnD o Fn sc_Rules___len__ (by intro ds W post h; first | (obtain ⟨rfl, _⟩ := h; rfl) | (obtain ⟨_, rfl, _⟩ := h; rfl) | (obtain ⟨_, _, rfl, _⟩ := h; rfl) | (obtain ⟨_, _, _, rfl, _⟩ := h; rfl) | (obtain ⟨_, _, _, _, rfl, _⟩ := h; rfl) | (obtain ⟨_, _, _, _, _, rfl, _⟩ := h; rfl) | (obtain ⟨_, _, _, _, _, _, rfl, _⟩ := h; rfl) | (obtain ⟨_, _, _, _, _, _, _, rfl, _⟩ := h; rfl) | (obtain ⟨_, _, _, _, _, _, _, _, rfl, _⟩ := h; rfl) | (obtain ⟨_, _, _, _, _, _, _, _, _, rfl, _⟩ := h; rfl) | (obtain ⟨_, _, _, _, _, _, _, _, _, _, rfl, _⟩ := h; rfl) | (obtain ⟨_, _, _, _, _, _, _, _, _, _, _, rfl, _⟩ := h; rfl)) (fun _ _ _ _ _ _ us hl => match us, hl with | [_], _ => rfl) fun cdv A outer s H E hr => ⟨_, pss_one (ps_ret (pe_callB cr_lenDk (by rfl) B.len bt_len (pa_cons (pe_fld (pv 0) rfl) pa_nil))), ?_⟩
  rintro ds W post ⟨rs, rfl, rfl, hr, k⟩
  try dsimp only [cxOf, Cx.nox, Cx.wish]
  have hf := hr.few
  refine sw_ret (ev_cb (ea_cons (ev_flR Z.z3 (ev_var rfl ?_))))
  refine ⟨rs, rfl, .inr ⟨rfl, ?_⟩⟩
  refine ea_nil (ca_lenDk (ps := rlPs rs) (.inl rfl) ?_)
  unfold rlPs
  rw [List.length_map]
  exact k
abbrev s_UnknownMark___init__ : Stmt := inClass (top 6) 0
theorem sc_UnknownMark___init__ : FnScope ["self", "mark"] ["self", "mark"] (defScope s_UnknownMark___init__) := ⟨rfl, rfl, rfl, by decide +kernel, rfl, by decide +kernel, by decide +kernel⟩
theorem e_UnknownMark {P : Program} {w : World} {K : PySem.W.Frag} {mg : Str → Option Value} {base : Heap} {cl : Nat → Addr} {f : Addr} {fd : FuncData} {BW : Addr} (iC : PySem.W.findIn K (.ref (cl 34)) "__init__" = some (some (.ref f))) (tI : PySem.W.typeIn K (.ref f) = some (.type "function")) (bw : BaseX K BW) (gw : mg "WebError" = some (.ref BW)) (Z : ZZ K w mg cl) (Fn : Fun K "__init__" "UnknownMark.__init__" s_UnknownMark___init__ f fd) : Err P w K mg base 1 "UnknownMark" (cl 34) "mark" := by
  exact errD Z.x34 iC tI Z.g_UnknownMark Fn sc_UnknownMark___init__ rfl rfl (fun _ _ _ _ _ _ us hl => match us, hl with | [_, _], _ => rfl) fun cdv A outer s H E => ⟨_, pss_cons (ps_expr (pe_exinit bw (by rfl) gw (pa_cons (pv 0) (pa_cons pe_str pa_nil)))) (pss_one (ps_osx (pv 0) (pv 1) rfl))⟩
abbrev s_Desk___init__ : Stmt := inClass (top 44) 0
theorem sc_Desk___init__ : FnScope ["self", "rules"] ["self", "rules"] (defScope s_Desk___init__) := ⟨rfl, rfl, rfl, by decide +kernel, rfl, by decide +kernel, by decide +kernel⟩
theorem m_Desk {P : Program} {w : World} {K : PySem.W.Frag} {mg : Str → Option Value} {base : Heap} {cl : Nat → Addr} {f : Addr} {fd : FuncData} (mk : Mk K (cl 4) f) (B : Blt mg) (Z : ZZ K w mg cl) (Fn : Fun K "__init__" "Desk.__init__" s_Desk___init__ f fd) : Mak P w K mg base 1 "Desk" (cl 4) (spN FK ⟨K, cl⟩ S_initDe) [] := by
  have fz := Z.z0
  refine makD mk Z.g_Desk Fn sc_Desk___init__ (by intro ds W post h; first | (obtain ⟨rfl, _⟩ := h; rfl) | (obtain ⟨_, rfl, _⟩ := h; rfl) | (obtain ⟨_, _, rfl, _⟩ := h; rfl) | (obtain ⟨_, _, _, rfl, _⟩ := h; rfl) | (obtain ⟨_, _, _, _, rfl, _⟩ := h; rfl) | (obtain ⟨_, _, _, _, _, rfl, _⟩ := h; rfl) | (obtain ⟨_, _, _, _, _, _, rfl, _⟩ := h; rfl) | (obtain ⟨_, _, _, _, _, _, _, rfl, _⟩ := h; rfl) | (obtain ⟨_, _, _, _, _, _, _, _, rfl, _⟩ := h; rfl) | (obtain ⟨_, _, _, _, _, _, _, _, _, rfl, _⟩ := h; rfl) | (obtain ⟨_, _, _, _, _, _, _, _, _, _, rfl, _⟩ := h; rfl) | (obtain ⟨_, _, _, _, _, _, _, _, _, _, _, rfl, _⟩ := h; rfl)) (fun _ _ _ _ _ _ us hl => match us, hl with | [_, _], _ => rfl) fun cdv A outer s H E hr => ⟨_, pss_cons (ps_fld (pv 0) (pv 1) rfl)
 (pss_cons (ps_fld (pv 0) (pe_tup pa_nil) rfl)
 (pss_one (ps_fld (pv 0) (pe_tup pa_nil) rfl))), ?_⟩
  rintro ds W post ⟨x, r, rfl, rfl, k⟩
  try dsimp only [cxOf, Cx.nox, Cx.wish]
  walk_at "st"
  refine rcv_newC Z.z4 (by decide +kernel) (by decide +kernel) (by decide) ?_
  walk_at "st"
  refine rcv_newC Z.z4 (by decide +kernel) (by decide +kernel) (by decide) ?_
  walk_at "st"
  refine rcv_newC Z.z4 (by decide +kernel) (by decide +kernel) (by decide) ?_
  walk_at "st"
  exact k
abbrev s_Desk_rules : Stmt := inClass (top 44) 1
theorem sc_Desk_rules : FnScope ["self"] ["self"] (defScope s_Desk_rules) := ⟨rfl, rfl, rfl, by decide +kernel, rfl, by decide +kernel, by decide +kernel⟩
theorem p_rules4 {P : Program} {w : World} {K : PySem.W.Frag} {mg : Str → Option Value} {base : Heap} {cl : Nat → Addr} {f : Addr} {fd : FuncData} {p : Addr} (o : PropOf K (cl 4) "rules" p f) (B : Blt mg) (Z : ZZ K w mg cl) (Fn : Fun K "rules" "Desk.rules" s_Desk_rules f fd) : Prp P w K mg base 1 (cl 4) "rules" (spN FK ⟨K, cl⟩ S_rulesDe) := by
  have fz := Z.z0
  refine prpD o Fn sc_Desk_rules (by intro ds W post h; first | (obtain ⟨rfl, _⟩ := h; rfl) | (obtain ⟨_, rfl, _⟩ := h; rfl) | (obtain ⟨_, _, rfl, _⟩ := h; rfl) | (obtain ⟨_, _, _, rfl, _⟩ := h; rfl) | (obtain ⟨_, _, _, _, rfl, _⟩ := h; rfl) | (obtain ⟨_, _, _, _, _, rfl, _⟩ := h; rfl) | (obtain ⟨_, _, _, _, _, _, rfl, _⟩ := h; rfl) | (obtain ⟨_, _, _, _, _, _, _, rfl, _⟩ := h; rfl) | (obtain ⟨_, _, _, _, _, _, _, _, rfl, _⟩ := h; rfl) | (obtain ⟨_, _, _, _, _, _, _, _, _, rfl, _⟩ := h; rfl) | (obtain ⟨_, _, _, _, _, _, _, _, _, _, rfl, _⟩ := h; rfl) | (obtain ⟨_, _, _, _, _, _, _, _, _, _, _, rfl, _⟩ := h; rfl)) (fun _ _ _ _ _ _ us hl => match us, hl with | [_], _ => rfl) fun cdv A outer s H E hr => ⟨_, pss_one (ps_ret (pe_fld (pv 0) rfl)), ?_⟩
  rintro ds W post ⟨p, r, as, ls, rfl, rfl, hr, k⟩
  try dsimp only [cxOf, Cx.nox, Cx.wish]
  refine sw_ret (ev_fld (ev_var rfl ?_))
  exact ⟨4, deNames, _, _, inst_de List.mem_cons_self, Z.z4.cls, Z.z4.nos _ (by decide +kernel), rfl, k⟩
abbrev s_Desk___len__ : Stmt := inClass (top 44) 3
theorem sc_Desk___len__ : FnScope ["self"] ["self"] (defScope s_Desk___len__) := ⟨rfl, rfl, rfl, by decide +kernel, rfl, by decide +kernel, by decide +kernel⟩
theorem o_len4 {P : Program} {w : World} {K : PySem.W.Frag} {mg : Str → Option Value} {base : Heap} {cl : Nat → Addr} {f : Addr} {fd : FuncData} (o : Own2 K (cl 4) "__len__" f) (B : Blt mg) (Z : ZZ K w mg cl) (Fn : Fun K "__len__" "Desk.__len__" s_Desk___len__ f fd)
    (o_len3 : Opn P w K mg base 1 (cl 3) "__len__" (spN FK ⟨K, cl⟩ S_lenRu)) : Opn P w K mg base 4 (cl 4) "__len__" (spN FK ⟨K, cl⟩ S_lenDe) := by
  have fz := Z.z0
  refine opnD o Fn sc_Desk___len__ (by intro ds W post h; first | (obtain ⟨rfl, _⟩ := h; rfl) | (obtain ⟨_, rfl, _⟩ := h; rfl) | (obtain ⟨_, _, rfl, _⟩ := h; rfl) | (obtain ⟨_, _, _, rfl, _⟩ := h; rfl) | (obtain ⟨_, _, _, _, rfl, _⟩ := h; rfl) | (obtain ⟨_, _, _, _, _, rfl, _⟩ := h; rfl) | (obtain ⟨_, _, _, _, _, _, rfl, _⟩ := h; rfl) | (obtain ⟨_, _, _, _, _, _, _, rfl, _⟩ := h; rfl) | (obtain ⟨_, _, _, _, _, _, _, _, rfl, _⟩ := h; rfl) | (obtain ⟨_, _, _, _, _, _, _, _, _, rfl, _⟩ := h; rfl) | (obtain ⟨_, _, _, _, _, _, _, _, _, _, rfl, _⟩ := h; rfl) | (obtain ⟨_, _, _, _, _, _, _, _, _, _, _, rfl, _⟩ := h; rfl)) (fun _ _ _ _ _ _ us hl => match us, hl with | [_], _ => rfl) fun cdv A outer s H E hr => ⟨_, pss_one (ps_ret (pe_callB (call_len_opn o_len3 hr (by omega)) (by rfl) B.len bt_len (pa_cons (pe_fld (pv 0) rfl) pa_nil))), ?_⟩
  rintro ds W post ⟨p, r, as, ls, rfl, rfl, hr, k⟩
  try dsimp only [cxOf, Cx.nox, Cx.wish]
  have hf := hr.few
  refine sw_ret (ev_cb (ea_cons (ev_fld (ev_var rfl ?_))))
  refine ⟨4, deNames, _, _, inst_de List.mem_cons_self, Z.z4.cls, Z.z4.nos _ (by decide +kernel), rfl, ?_⟩
  refine ea_nil (ca_lenO (inst_rl r) ?_)
  refine hand0 ⟨r, rfl, rfl, hr, ⟨_, rfl, by omega, by omega⟩, ?_⟩
  try simp only [List.nil_append]
  try walk_at "st"
  exact k
abbrev s_Desk_change_to : Stmt := inClass (top 44) 8
theorem sc_Desk_change_to : FnScope ["self", "forms", "rules"] ["self", "forms"] (defScope s_Desk_change_to) := ⟨rfl, rfl, rfl, by decide +kernel, rfl, by decide +kernel, by decide +kernel⟩
theorem mw_change_to4 {P : Program} {w : World} {K : PySem.W.Frag} {mg : Str → Option Value} {base : Heap} {cl : Nat → Addr} {f : Addr} {fd : FuncData} (me : Meth K (cl 4) "change_to" f) (B : Blt mg) (Z : ZZ K w mg cl) (Fn : Fun K "change_to" "Desk.change_to" s_Desk_change_to f fd)
    (mx_Rules : MakX P w K mg base 7 "Rules" (cl 3) 1 ["rows"] (fun vs zs => vs ++ zs) (spX FK ⟨K, cl⟩ (S_initXO)))
    (c_rows_by : Cal P w K mg base 1 "rows_by" (spN FK ⟨K, cl⟩ S_rowsbyO) []) : MetX P w K mg base 10 (cl 4) "change_to" ["forms"] (fun vs zs => vs ++ zs) (spX FK ⟨K, cl⟩ (S_changeO)) := by
  have fz := Z.z0
  refine metXD Z.z4.cls me Fn sc_Desk_change_to (by intro ds W post ex h; first | (obtain ⟨rfl, _⟩ := h; rfl) | (obtain ⟨_, rfl, _⟩ := h; rfl) | (obtain ⟨_, _, rfl, _⟩ := h; rfl) | (obtain ⟨_, _, _, rfl, _⟩ := h; rfl) | (obtain ⟨_, _, _, _, rfl, _⟩ := h; rfl) | (obtain ⟨_, _, _, _, _, rfl, _⟩ := h; rfl) | (obtain ⟨_, _, _, _, _, _, rfl, _⟩ := h; rfl) | (obtain ⟨_, _, _, _, _, _, _, rfl, _⟩ := h; rfl) | (obtain ⟨_, _, _, _, _, _, _, _, rfl, _⟩ := h; rfl) | (obtain ⟨_, _, _, _, _, _, _, _, _, rfl, _⟩ := h; rfl) | (obtain ⟨_, _, _, _, _, _, _, _, _, _, rfl, _⟩ := h; rfl) | (obtain ⟨_, _, _, _, _, _, _, _, _, _, _, rfl, _⟩ := h; rfl)) (fun _ _ _ _ _ _ us hl => match us, hl with | [_, _], _ => rfl) (kb1_of (g := fun us ws => us ++ ws) Fn (fun _ _ _ _ _ _ u ws hl => match ws, hl with | [_], _ => rfl) (fun h1 h2 => by first | exact h1.append h2 | exact h1.append h2.reverse)) fun cdv A outer s H E hr => ⟨_, pss_cons (ps_set (i := 2) sc_Desk_change_to.nd rfl (Or.inl rfl) (pe_mkX mx_Rules hr (by omega) (by rfl) (takes_of rfl rfl rfl rfl) (pa_cons (pe_c c_rows_by hr (by omega) (by rfl) (pa_cons (pv 1) pa_nil)) pa_nil)))
 (pss_cons (ps_fld (pv 0) (pe_tup (StX.pa_star (pe_fld (pv 0) rfl) (pa_cons (pe_fld (pv 0) rfl) pa_nil))) rfl)
 (pss_cons (ps_fld (pv 0) (pe_tup pa_nil) rfl)
 (pss_one (ps_fld (pv 0) (pv 2) rfl)))), ?_⟩
  rintro ds W post ex ⟨p, q, r, as, ls, l, g, rfl, rfl, nd, hl, hw, ho, ha, k1, k2⟩
  try dsimp only [cxOf, Cx.nox, Cx.wish]
  have h16 := sizeLine_eq
  have hlen := srtR_len nd
  have eP : List.Perm [(p, deO r as ls), (q, OD.dp (tabO g l))] [(q, OD.dp (tabO g l)), (p, deO r as ls)] := List.Perm.swap _ _ _
  refine swx_seq (swx_set (evx_fz (evx_mk (ea_cons (ev_call (ea_cons (ev_var rfl ?_)))))))
  refine ea_nil ?_
  refine ⟨[(q, OD.dp (tabO g l))], [(p, deO r as ls)], eP, q, l, g, rfl, rfl, nd, by omega, ?_⟩
  refine ea_nil fun x hx => ?_
  refine ⟨[(x, .ins 3 [] [])], [(p, deO r as ls)], List.Perm.refl _, x, srtR l, g, rfl, rfl, hw, ho, by omega, fun e => ?_, fun s e d => ?_⟩
  · refine ⟨rfl, x, _, [(p, deO r as ls)], rlD (srtR l), rfl, List.Perm.refl _, .obj _ _ _, ?_⟩
    have k1 := k1 e
    rw [deO_snoc] at k1
    walk_at "st"
    refine ea_star (ev_fld (ev_var rfl ?_))
    refine ⟨4, deNames, _, _, inst_de List.mem_cons_self, Z.z4.cls, Z.z4.nos _ (by decide +kernel), rfl, ?_⟩
    refine ⟨as.map rlD, .inr rfl, ?_⟩
    refine ea_cons (ev_fld (ev_var rfl ?_))
    refine ⟨4, deNames, _, _, inst_de List.mem_cons_self, Z.z4.cls, Z.z4.nos _ (by decide +kernel), rfl, ?_⟩
    refine ea_nil ⟨by rw [List.length_append, List.length_map]; simp only [List.length_cons, List.length_nil]; omega, ?_⟩
    walk_at "st"
    refine rcv_de Z.z4 1 (by decide +kernel) (by decide +kernel) ?_
    walk_at "st"
    refine rcv_de Z.z4 2 (by decide +kernel) (by decide +kernel) ?_
    walk_at "st"
    refine rcv_de Z.z4 0 (by decide +kernel) (by decide +kernel) ?_
    walk_at "st"
    exact k1
  · exact k2 s e d x
abbrev s_Desk___getitem__ : Stmt := inClass (top 44) 2
theorem sc_Desk___getitem__ : FnScope ["self", "mark"] ["self", "mark"] (defScope s_Desk___getitem__) := ⟨rfl, rfl, rfl, by decide +kernel, rfl, by decide +kernel, by decide +kernel⟩
theorem o_getitem4 {P : Program} {w : World} {K : PySem.W.Frag} {mg : Str → Option Value} {base : Heap} {cl : Nat → Addr} {f : Addr} {fd : FuncData} (o : Own2 K (cl 4) "__getitem__" f) (B : Blt mg) (Z : ZZ K w mg cl) (Fn : Fun K "__getitem__" "Desk.__getitem__" s_Desk___getitem__ f fd)
    (o_getitem3 : Opi P w K mg base 3 (cl 3) "__getitem__" (spN FK ⟨K, cl⟩ S_getRu)) : Opi P w K mg base 6 (cl 4) "__getitem__" (spN FK ⟨K, cl⟩ S_getDe) := by
  have fz := Z.z0
  refine opiD o Fn sc_Desk___getitem__ (by intro ds W post h; first | (obtain ⟨rfl, _⟩ := h; rfl) | (obtain ⟨_, rfl, _⟩ := h; rfl) | (obtain ⟨_, _, rfl, _⟩ := h; rfl) | (obtain ⟨_, _, _, rfl, _⟩ := h; rfl) | (obtain ⟨_, _, _, _, rfl, _⟩ := h; rfl) | (obtain ⟨_, _, _, _, _, rfl, _⟩ := h; rfl) | (obtain ⟨_, _, _, _, _, _, rfl, _⟩ := h; rfl) | (obtain ⟨_, _, _, _, _, _, _, rfl, _⟩ := h; rfl) | (obtain ⟨_, _, _, _, _, _, _, _, rfl, _⟩ := h; rfl) | (obtain ⟨_, _, _, _, _, _, _, _, _, rfl, _⟩ := h; rfl) | (obtain ⟨_, _, _, _, _, _, _, _, _, _, rfl, _⟩ := h; rfl) | (obtain ⟨_, _, _, _, _, _, _, _, _, _, _, rfl, _⟩ := h; rfl)) (fun _ _ _ _ _ _ us hl => match us, hl with | [_, _], _ => rfl) fun cdv A outer s H E hr => ⟨_, pss_one (ps_ret (pe_ixOwn o_getitem3 hr (by omega) (pe_fld (pv 0) rfl) (pv 1))), ?_⟩
  rintro ds W post ⟨p, r, as, ls, x, rfl, rfl, hr, hx, k⟩
  try dsimp only [cxOf, Cx.nox, Cx.wish]
  refine sw_ret (ev_op (ev_fld (ev_var rfl ?_)))
  refine ⟨4, deNames, _, _, inst_de List.mem_cons_self, Z.z4.cls, Z.z4.nos _ (by decide +kernel), rfl, ?_⟩
  refine ev_var rfl ?_
  refine bo_ownIx (inst_rl r) ?_
  exact hand0 ⟨r, x, rfl, rfl, hr, hx, k⟩
abbrev s_Desk_lay : Stmt := inClass (top 44) 6
theorem sc_Desk_lay : FnScope ["self", "mark", "formula"] ["self", "mark", "formula"] (defScope s_Desk_lay) := ⟨rfl, rfl, rfl, by decide +kernel, rfl, by decide +kernel, by decide +kernel⟩
theorem mw_lay4 {P : Program} {w : World} {K : PySem.W.Frag} {mg : Str → Option Value} {base : Heap} {cl : Nat → Addr} {f : Addr} {fd : FuncData} (me : Meth K (cl 4) "lay" f) (B : Blt mg) (Z : ZZ K w mg cl) (Fn : Fun K "lay" "Desk.lay" s_Desk_lay f fd)
    (c_is_rule : Cal P w K mg base 3 "is_rule" (spN FK ⟨K, cl⟩ S_isruleN) [])
    (e_BadRules : Err P w K mg base 1 "BadRules" (cl 33) "part")
    (mw_change_to4 : MetX P w K mg base 10 (cl 4) "change_to" ["forms"] (fun vs zs => vs ++ zs) (spX FK ⟨K, cl⟩ (S_changeO))) : MetX P w K mg base 13 (cl 4) "lay" ["formula", "mark"] (fun vs zs => vs ++ zs.reverse) (spX FK ⟨K, cl⟩ (S_layDe)) := by
  have fz := Z.z0
  refine metXD Z.z4.cls me Fn sc_Desk_lay (by intro ds W post ex h; first | (obtain ⟨rfl, _⟩ := h; rfl) | (obtain ⟨_, rfl, _⟩ := h; rfl) | (obtain ⟨_, _, rfl, _⟩ := h; rfl) | (obtain ⟨_, _, _, rfl, _⟩ := h; rfl) | (obtain ⟨_, _, _, _, rfl, _⟩ := h; rfl) | (obtain ⟨_, _, _, _, _, rfl, _⟩ := h; rfl) | (obtain ⟨_, _, _, _, _, _, rfl, _⟩ := h; rfl) | (obtain ⟨_, _, _, _, _, _, _, rfl, _⟩ := h; rfl) | (obtain ⟨_, _, _, _, _, _, _, _, rfl, _⟩ := h; rfl) | (obtain ⟨_, _, _, _, _, _, _, _, _, rfl, _⟩ := h; rfl) | (obtain ⟨_, _, _, _, _, _, _, _, _, _, rfl, _⟩ := h; rfl) | (obtain ⟨_, _, _, _, _, _, _, _, _, _, _, rfl, _⟩ := h; rfl)) (fun _ _ _ _ _ _ us hl => match us, hl with | [_, _, _], _ => rfl) (kb1_of (g := fun us ws => us ++ ws.reverse) Fn (fun _ _ _ _ _ _ u ws hl => match ws, hl with | [_, _], _ => rfl) (fun h1 h2 => by first | exact h1.append h2 | exact h1.append h2.reverse)) fun cdv A outer s H E hr => ⟨_, pss_cons (ps_if (pt_not (pt_val (pe_c c_is_rule hr (by omega) (by rfl) (pa_cons (pe_tup (pa_cons (pv 1) (pa_cons (pv 2) pa_nil))) pa_nil)))) (pss_one (ps_raise rfl (takes_of rfl rfl rfl rfl) (pmk_err e_BadRules hr (by omega) (by rfl) (pa_cons (pe_tup (pa_cons (pv 1) (pa_cons (pv 2) pa_nil))) pa_nil)))) (pss_nil))
 (pss_one (ps_expr (pe_mtX mw_change_to4 hr (by omega) (takes_of rfl rfl rfl rfl) (pv 0) (pa_cons (pe_dispS (pe_callTy (cr_dictT rfl) (by rfl) B.dict bt_dict (pa_cons (pe_fld (pe_fld (pv 0) rfl) rfl) pa_nil)) (pv 1) (pv 2)) pa_nil)))), ?_⟩
  rintro ds W post ex ⟨p, r, as, ls, m, d, rfl, rfl, hr, hm, hd, hf, ha, k1, k2⟩
  try dsimp only [cxOf, Cx.nox, Cx.wish]
  have h16 := sizeLine_eq
  have hfew := hr.few
  walk_at "st"
  rcases rule_or hm hd with ⟨c, f, rfl, h1, h2, ho⟩ | hb
  · refine hand0 ⟨_, _, rfl, rfl, .inl ⟨c, f, rfl, h1, h2, ho, ?_⟩⟩
    have hff : f.okF := by
      rcases ho with rfl | ⟨b, hb, rfl, rfl⟩
      · exact hf f rfl
      · exact okF_many hb (Nat.le_of_ble_eq_true rfl)
    obtain ⟨k1, k3⟩ := k1 c f rfl h1 h2 ho
    try simp only [List.nil_append]
    refine ⟨_, rfl, ?_⟩
    refine if_not rfl ?_
    refine swx_next ?_
    refine swx_drop (evx_meth (ev_var rfl ?_))
    refine ⟨_, _, inst_de List.mem_cons_self, by decide +kernel, ?_⟩
    refine ea_cons (ev_dispS (ev_cb (ea_cons (ev_flZ Z.z3 (ev_fld (ev_var rfl ?_))))))
    refine ⟨4, deNames, _, _, inst_de List.mem_cons_self, Z.z4.cls, Z.z4.nos _ (by decide +kernel), rfl, ?_⟩
    refine ⟨r, rfl, ?_⟩
    rw [rowsZ_ps]
    refine ea_nil (ca_dictTF ?_)
    rw [rl_tab hr]
    refine ⟨_, rfl, by unfold tabO; rw [List.length_map]; omega, ?_⟩
    refine ev_var rfl ?_
    refine ev_var rfl ?_
    refine ⟨Sum.inr (sg c), rfl, fun q hq => ?_⟩
    have em : mergeG (tabO (gF r) r) = tabO (gF r) r := by rw [← tabL_O hr.nd]; exact mergeG_nd (tabL_nd (f := D.fm) hr.nd)
    rw [em, putG_tabO (f := f)]
    refine ea_nil ?_
    exact ⟨[(p, deO r as ls), (q, _)], [], List.Perm.swap _ _ _, p, q, r, as, ls, putN r c f, _, rfl, rfl, putN_nd hr.nd, put_len hr c f, put_rws hr h1 h2 hff, fun x hx => put_opd hr ho hx, ha, k1, k3⟩
  · refine hand0 ⟨_, _, rfl, rfl, .inr ⟨hm, hd, hb, ?_⟩⟩
    try simp only [List.nil_append]
    refine ⟨_, rfl, ?_⟩
    refine if_so rfl ?_
    walk_at "st"
    exact fun e he => k2 hb e
abbrev s_Desk___setitem__ : Stmt := inClass (top 44) 5
theorem sc_Desk___setitem__ : FnScope ["self", "mark", "formula"] ["self", "mark", "formula"] (defScope s_Desk___setitem__) := ⟨rfl, rfl, rfl, by decide +kernel, rfl, by decide +kernel, by decide +kernel⟩
theorem ow_setitem4 {P : Program} {w : World} {K : PySem.W.Frag} {mg : Str → Option Value} {base : Heap} {cl : Nat → Addr} {f : Addr} {fd : FuncData} (me : Own2 K (cl 4) "__setitem__" f) (B : Blt mg) (Z : ZZ K w mg cl) (Fn : Fun K "__setitem__" "Desk.__setitem__" s_Desk___setitem__ f fd)
    (mw_lay4 : MetX P w K mg base 13 (cl 4) "lay" ["formula", "mark"] (fun vs zs => vs ++ zs.reverse) (spX FK ⟨K, cl⟩ (S_layDe))) : OwX P w K mg base 16 (cl 4) "__setitem__" (spX FK ⟨K, cl⟩ (S_layDe)) := by
  have fz := Z.z0
  refine owXD me Fn sc_Desk___setitem__ (by intro ds W post ex h; first | (obtain ⟨rfl, _⟩ := h; rfl) | (obtain ⟨_, rfl, _⟩ := h; rfl) | (obtain ⟨_, _, rfl, _⟩ := h; rfl) | (obtain ⟨_, _, _, rfl, _⟩ := h; rfl) | (obtain ⟨_, _, _, _, rfl, _⟩ := h; rfl) | (obtain ⟨_, _, _, _, _, rfl, _⟩ := h; rfl) | (obtain ⟨_, _, _, _, _, _, rfl, _⟩ := h; rfl) | (obtain ⟨_, _, _, _, _, _, _, rfl, _⟩ := h; rfl) | (obtain ⟨_, _, _, _, _, _, _, _, rfl, _⟩ := h; rfl) | (obtain ⟨_, _, _, _, _, _, _, _, _, rfl, _⟩ := h; rfl) | (obtain ⟨_, _, _, _, _, _, _, _, _, _, rfl, _⟩ := h; rfl) | (obtain ⟨_, _, _, _, _, _, _, _, _, _, _, rfl, _⟩ := h; rfl)) (fun _ _ _ _ _ _ us hl => match us, hl with | [_, _, _], _ => rfl) fun cdv A outer s H E hr => ⟨_, pss_one (ps_expr (pe_mtX mw_lay4 hr (by omega) (takes_of rfl rfl rfl rfl) (pv 0) (pa_cons (pv 1) (pa_cons (pv 2) pa_nil)))), ?_⟩
  rintro ds W post ex ⟨p, r, as, ls, m, d, rfl, rfl, hr, hm, hd, hf, ha, k1, k2⟩
  try dsimp only [cxOf, Cx.nox, Cx.wish]
  refine swx_drop (evx_meth (ev_var rfl ?_))
  refine ⟨_, _, inst_de List.mem_cons_self, by decide +kernel, ?_⟩
  walk_at "st"
  exact handXA ⟨p, r, as, ls, m, d, rfl, rfl, hr, hm, hd, hf, ha, k1, k2⟩
abbrev s_Desk_take_out : Stmt := inClass (top 44) 7
theorem sc_Desk_take_out : FnScope ["self", "mark", "forms", "other"] ["self", "mark"] (defScope s_Desk_take_out) := ⟨rfl, rfl, rfl, by decide +kernel, rfl, by decide +kernel, by decide +kernel⟩
theorem mw_take_out4 {P : Program} {w : World} {K : PySem.W.Frag} {mg : Str → Option Value} {base : Heap} {cl : Nat → Addr} {f : Addr} {fd : FuncData} (me : Meth K (cl 4) "take_out" f) (B : Blt mg) (Z : ZZ K w mg cl) (Fn : Fun K "take_out" "Desk.take_out" s_Desk_take_out f fd)
    (c_is_mark : Cal P w K mg base 2 "is_mark" (spN FK ⟨K, cl⟩ S_ismarkN) [])
    (e_UnknownMark : Err P w K mg base 1 "UnknownMark" (cl 34) "mark")
    (mw_change_to4 : MetX P w K mg base 10 (cl 4) "change_to" ["forms"] (fun vs zs => vs ++ zs) (spX FK ⟨K, cl⟩ (S_changeO))) : MetX P w K mg base 13 (cl 4) "take_out" ["mark"] (fun vs zs => vs ++ zs) (spX FK ⟨K, cl⟩ (S_takeDe)) := by
  have fz := Z.z0
  refine metXD Z.z4.cls me Fn sc_Desk_take_out (by intro ds W post ex h; first | (obtain ⟨rfl, _⟩ := h; rfl) | (obtain ⟨_, rfl, _⟩ := h; rfl) | (obtain ⟨_, _, rfl, _⟩ := h; rfl) | (obtain ⟨_, _, _, rfl, _⟩ := h; rfl) | (obtain ⟨_, _, _, _, rfl, _⟩ := h; rfl) | (obtain ⟨_, _, _, _, _, rfl, _⟩ := h; rfl) | (obtain ⟨_, _, _, _, _, _, rfl, _⟩ := h; rfl) | (obtain ⟨_, _, _, _, _, _, _, rfl, _⟩ := h; rfl) | (obtain ⟨_, _, _, _, _, _, _, _, rfl, _⟩ := h; rfl) | (obtain ⟨_, _, _, _, _, _, _, _, _, rfl, _⟩ := h; rfl) | (obtain ⟨_, _, _, _, _, _, _, _, _, _, rfl, _⟩ := h; rfl) | (obtain ⟨_, _, _, _, _, _, _, _, _, _, _, rfl, _⟩ := h; rfl)) (fun _ _ _ _ _ _ us hl => match us, hl with | [_, _], _ => rfl) (kb1_of (g := fun us ws => us ++ ws) Fn (fun _ _ _ _ _ _ u ws hl => match ws, hl with | [_], _ => rfl) (fun h1 h2 => by first | exact h1.append h2 | exact h1.append h2.reverse)) fun cdv A outer s H E hr => ⟨_, pss_cons (ps_set (i := 2) sc_Desk_take_out.nd rfl (Or.inr rfl) (pe_callTy (cr_dictT rfl) (by rfl) B.dict bt_dict (pa_cons (pe_fld (pe_fld (pv 0) rfl) rfl) pa_nil)))
 (pss_cons (ps_if (PW.pt (pw_or (pt_not (pt_val (pe_c c_is_mark hr (by omega) (by rfl) (pa_cons (pv 1) pa_nil)))) (pw_or1 (pt_cmp (pc_dnotin (by exact hu_of hr) (pv 1) (pv 2)))))) (pss_one (ps_raise rfl (takes_of rfl rfl rfl rfl) (pmk_err e_UnknownMark hr (by omega) (by rfl) (pa_cons (pv 1) pa_nil)))) (pss_nil))
 (pss_one (ps_expr (pe_mtX mw_change_to4 hr (by omega) (takes_of rfl rfl rfl rfl) (pv 0) (pa_cons (pe_lock (pe_dc (own := [("other", 3)]) (by rfl) sc_Desk_take_out.nd (pi_keys (pv 2)) (blkOk_by (own := [("other", 3)]) (N := ["self", "mark", "forms", "other"]) (sc := defScope s_Desk_take_out) (by decide +kernel)) (fun _ _ _ _ _ => (pg_name (i := 3) sc_Desk_take_out.nd rfl (Or.inl rfl))) (fun _ _ _ _ _ => pts_one (pt_cmpR op_ne (pv 3) (pv 1) (nomark _))) (fun _ _ _ _ _ => (pv 3)) (fun _ _ _ _ _ => (pe_dget (by exact hu_of hr) (pv 2) (pv 3) (fun _ _ => rfl))))) pa_nil))))), ?_⟩
  rintro ds W post ex ⟨p, r, as, ls, m, rfl, rfl, hr, hm, ha, k1, k2⟩
  try dsimp only [cxOf, Cx.nox, Cx.wish]
  have h16 := sizeLine_eq
  have hfew := hr.few
  refine swx_seq (swx_set (evx_of (ev_cb (ea_cons (ev_flZ Z.z3 (ev_fld (ev_var rfl ?_)))))))
  refine ⟨4, deNames, _, _, inst_de List.mem_cons_self, Z.z4.cls, Z.z4.nos _ (by decide +kernel), rfl, ?_⟩
  refine ⟨r, rfl, ?_⟩
  rw [rowsZ_ps]
  refine ea_nil (ca_dictT fun q hq => ?_)
  rw [rl_tab hr]
  walk_at "st"
  rcases hm with ⟨x, rfl, hl⟩ | hn
  · refine hand0 ⟨_, rfl, rfl, .inl ⟨x, rfl, hl, ?_⟩⟩
    try simp only [List.nil_append]
    refine ⟨_, rfl, ?_⟩
    cases ec : isCap x with
    | false =>
      have no : ∀ y ∈ r, D.str x ≠ D.str (sg y.1) := fun y hy e => by
        obtain rfl : x = sg y.1 := V.str.inj (D.vl.inj e)
        rw [isCap_sg (hr.cap y hy).1 (hr.cap y hy).2] at ec
        cases ec
      refine if_so rfl ?_
      first | refine if_so rfl ?_ | rw [if_pos trivial]
      refine swx_drp (List.sublist_cons_self _ _) ?_
      walk_at "st"
      exact fun e he => k2 no e
    | true =>
      obtain ⟨c, rfl, hc1, hc2⟩ := isCap_of ec
      refine if_not rfl ?_
      refine et_B (ev_dnotin ?_)
      refine ev_var rfl ?_
      refine ev_var rfl ?_
      refine ⟨tabO (gF r) r, Sum.inr (sg c), .inr ⟨q, rfl, List.mem_cons_self⟩, rfl, ?_⟩
      by_cases hm : c ∈ r.map (·.1)
      · rw [getG_tabO hm]
        obtain ⟨k1, k3⟩ := k1 c rfl hm
        refine ⟨_, rfl, ?_⟩
        refine if_not rfl ?_
        refine swx_next ?_
        refine swx_drop (evx_meth (ev_var rfl ?_))
        refine ⟨_, _, inst_de (List.mem_cons_of_mem _ List.mem_cons_self), by decide +kernel, ?_⟩
        refine ea_cons (ev_drp (ev_lockE (W1 := []) (W2 := [(p, deO r as ls)]) fun od kvs => ?_))
        refine ev_dcL (cell := (q, .lp od kvs (tabO (gF r) r))) (ei_keysL ?_)
        refine ev_var rfl ?_
        refine ⟨rfl, List.mem_cons_self, ?_⟩
        refine ⟨fun i acc W' => W' = [(q, .lp od kvs (tabO (gF r) r)), (p, deO r as ls)] ∧ acc = tabO (gF r) (dropN (r.take i) c), ⟨rfl, rfl⟩, fun i acc W' h => by rw [h.1]; exact List.mem_cons_self, ?_, ?_⟩
        · rintro i d acc W' hd ⟨rfl, rfl⟩
          unfold tabO at hd
          rw [List.map_map, List.getElem?_map] at hd
          obtain ⟨x, hx, rfl⟩ := Option.map_eq_some_iff.mp hd
          have hxm := List.mem_of_getElem? hx
          have hi := (List.getElem?_eq_some_iff.mp hx).1
          refine tw_name (by simp) ?_
          walk_at "st"
          refine bo_neS ⟨_, rfl, ?_⟩
          by_cases e : x.1 = c
          · exact if_not (by simp [e]) ⟨rfl, by rw [dropN_step hx, if_pos e]⟩
          · refine if_so (by simp [sg_ne e]) ?_
            refine ev_var rfl ?_
            refine ev_dgetL ?_
            walk_at "st"
            refine ⟨q, od, kvs, _, Sum.inr (sg x.1), gF r x.1, rfl, List.mem_cons_self, rfl, getG_tabO (List.mem_map.mpr ⟨x, hxm, rfl⟩), ?_⟩
            refine ⟨Sum.inr (sg x.1), rfl, ?_, rfl, by rw [dropN_step hx, if_neg e]; exact put_fresh (drop_fresh hr.nd hx c)⟩
            have : (dropN (r.take i) c).length ≤ (r.take i).length := List.length_filter_le _ _
            rw [List.length_take] at this
            unfold tabO
            rw [List.length_map]
            omega
        · rintro acc W' ⟨rfl, rfl⟩ b hb
          have et : r.take (List.map (fun p => kD p.1) (tabO (gF r) r)).length = r := List.take_of_length_le (by unfold tabO; simp)
          rw [et]
          refine ⟨[(b, _)], [_], rfl, [(b, _), (p, deO r as ls)], .cons₂ _ (.cons _ (.refl _)), ?_⟩
          refine ea_nil ?_
          have es := drop_srt hr c
          exact ⟨[(p, deO r as ls), (b, _)], [], List.Perm.swap _ _ _, p, b, r, as, ls, dropN r c, gF r, rfl, rfl, (drop_asc hr.asc).imp fun h => Nat.ne_of_lt h, drop_len hr c, es.symm ▸ drop_rws hr, fun x hx => drop_opd hr (es ▸ hx), ha, fun e => es.symm ▸ k1 (es ▸ e), fun s e => k3 s (es ▸ e)⟩
      · rw [show getG (tabO (gF r) r) (Sum.inr (sg c)) = none from getG_tabO_none hm]
        refine ⟨_, rfl, ?_⟩
        refine if_so rfl ?_
        refine swx_drp (List.sublist_cons_self _ _) ?_
        walk_at "st"
        exact fun e he => k2 (fun y hy e2 => hm (by
          have e3 : sg c = sg y.1 := V.str.inj (D.vl.inj e2)
          rw [sg_inj e3]
          exact List.mem_map_of_mem hy)) e
  · refine hand0 ⟨_, rfl, rfl, .inr ⟨hn, ?_⟩⟩
    try simp only [List.nil_append]
    refine ⟨_, rfl, ?_⟩
    refine if_so rfl ?_
    first | refine if_so rfl ?_ | rw [if_pos trivial]
    refine swx_drp (List.sublist_cons_self _ _) ?_
    walk_at "st"
    exact fun e he => k2 (fun y hy e2 => by subst e2; cases hn) e
end
section
abbrev s_Desk_undo : Stmt := inClass (top 44) 9
theorem sc_Desk_undo : FnScope ["self"] ["self"] (defScope s_Desk_undo) := ⟨rfl, rfl, rfl, by decide +kernel, rfl, by decide +kernel, by decide +kernel⟩
theorem mw_undo4 {P : Program} {w : World} {K : PySem.W.Frag} {mg : Str → Option Value} {base : Heap} {cl : Nat → Addr} {f : Addr} {fd : FuncData} (me : Meth K (cl 4) "undo" f) (B : Blt mg) (Z : ZZ K w mg cl) (Fn : Fun K "undo" "Desk.undo" s_Desk_undo f fd) : MetX P w K mg base 1 (cl 4) "undo" [] (fun vs zs => vs ++ zs) (spX FK ⟨K, cl⟩ (S_undoDe)) := by
  have fz := Z.z0
  refine metXD Z.z4.cls me Fn sc_Desk_undo (by intro ds W post ex h; first | (obtain ⟨rfl, _⟩ := h; rfl) | (obtain ⟨_, rfl, _⟩ := h; rfl) | (obtain ⟨_, _, rfl, _⟩ := h; rfl) | (obtain ⟨_, _, _, rfl, _⟩ := h; rfl) | (obtain ⟨_, _, _, _, rfl, _⟩ := h; rfl) | (obtain ⟨_, _, _, _, _, rfl, _⟩ := h; rfl) | (obtain ⟨_, _, _, _, _, _, rfl, _⟩ := h; rfl) | (obtain ⟨_, _, _, _, _, _, _, rfl, _⟩ := h; rfl) | (obtain ⟨_, _, _, _, _, _, _, _, rfl, _⟩ := h; rfl) | (obtain ⟨_, _, _, _, _, _, _, _, _, rfl, _⟩ := h; rfl) | (obtain ⟨_, _, _, _, _, _, _, _, _, _, rfl, _⟩ := h; rfl) | (obtain ⟨_, _, _, _, _, _, _, _, _, _, _, rfl, _⟩ := h; rfl)) (fun _ _ _ _ _ _ us hl => match us, hl with | [_], _ => rfl) (kb1_of (g := fun us ws => us ++ ws) Fn (fun _ _ _ _ _ _ u ws hl => match ws, hl with | [], _ => rfl) (fun h1 h2 => by first | exact h1.append h2 | exact h1.append h2.reverse)) fun cdv A outer s H E hr => ⟨_, pss_cons (ps_if (pt_cmpR (op_eqT0 hr.units) (pe_fld (pv 0) rfl) (pe_tup pa_nil) (nomark _)) (pss_one (ps_raise rfl (takes_of rfl rfl rfl rfl) (pmk_er0 Z.r100 (by rfl)))) (pss_nil))
 (pss_cons (ps_fld (pv 0) (pe_tup (StX.pa_star (pe_fld (pv 0) rfl) (pa_cons (pe_fld (pv 0) rfl) pa_nil))) rfl)
 (pss_cons (ps_fld (pv 0) (pe_ix ix_tup (pe_fld (pv 0) rfl) (pe_un un_neg pe_int) (fun _ _ => rfl)) rfl)
 (pss_one (ps_fld (pv 0) (pe_slice sl_tupA (pe_fld (pv 0) rfl) po_none (po_some (pe_un un_neg pe_int))) rfl)))), ?_⟩
  rintro ds W post ex ⟨p, r, as, ls, rfl, rfl, hls, kx, k⟩
  try dsimp only [cxOf, Cx.nox, Cx.wish]
  have h16 := sizeLine_eq
  have hi : Inst FK [(p, deO r as ls)] (.adr p) 4 deNames [rlD r, tupR as, tupR ls] := inst_de List.mem_cons_self
  refine swx_seq (swx_if (et_test (ev_op (ev_fld (ev_var rfl ?_)))))
  refine ⟨4, deNames, _, _, hi, Z.z4.cls, Z.z4.nos _ (by decide +kernel), rfl, ?_⟩
  refine ev_tup (ea_nil ⟨by show 0 ≤ _; omega, ?_⟩)
  refine bo_eqT0 ⟨_, rfl, ?_⟩
  rcases List.eq_nil_or_concat as with rfl | ⟨bs, q, rfl⟩
  · refine if_so rfl ?_
    exact swx_raise0 (kx rfl)
  simp only [List.concat_eq_append] at *
  refine if_not (by simp) ?_
  refine swx_next ?_
  have k1 := k bs q rfl
  walk_at "st"
  refine ea_star (ev_fld (ev_var rfl ?_))
  refine ⟨4, deNames, _, _, hi, Z.z4.cls, Z.z4.nos _ (by decide +kernel), rfl, ?_⟩
  refine ⟨ls.map rlD, .inr rfl, ?_⟩
  refine ea_cons (ev_fld (ev_var rfl ?_))
  refine ⟨4, deNames, _, _, hi, Z.z4.cls, Z.z4.nos _ (by decide +kernel), rfl, ?_⟩
  refine ea_nil ⟨by rw [List.length_append, List.length_map]; simp only [List.length_cons, List.length_nil]; omega, ?_⟩
  walk_at "st"
  refine rcv_de Z.z4 2 (by decide +kernel) (by decide +kernel) ?_
  try dsimp only
  refine swx_seq (swx_fld (ev_op (ev_fld (ev_var rfl ?_))))
  refine ⟨4, deNames, _, _, .own _ _ _ _ List.mem_cons_self, Z.z4.cls, Z.z4.nos _ (by decide +kernel), rfl, ?_⟩
  walk_at "st"
  unfold tupR
  rw [List.map_append]
  refine bo_ixT (atI_snoc _ _) ?_
  walk_at "st"
  refine rcv_de Z.z4 0 (by decide +kernel) (by decide +kernel) ?_
  try dsimp only
  refine swx_fld (ev_sl (ev_fld (ev_var rfl ?_)))
  refine ⟨4, deNames, _, _, .own _ _ _ _ List.mem_cons_self, Z.z4.cls, Z.z4.nos _ (by decide +kernel), rfl, ?_⟩
  walk_at "st"
  refine ca_slT ?_
  rw [show cutD (bs.map rlD ++ List.map rlD [q]) none (some (-1)) = bs.map rlD from cutD_snoc _ _]
  walk_at "st"
  refine rcv_de Z.z4 1 (by decide +kernel) (by decide +kernel) ?_
  walk_at "st"
  unfold deO at k1
  rw [tupR_snoc] at k1
  exact k1
abbrev s_Desk_redo : Stmt := inClass (top 44) 10
theorem sc_Desk_redo : FnScope ["self"] ["self"] (defScope s_Desk_redo) := ⟨rfl, rfl, rfl, by decide +kernel, rfl, by decide +kernel, by decide +kernel⟩
theorem mw_redo4 {P : Program} {w : World} {K : PySem.W.Frag} {mg : Str → Option Value} {base : Heap} {cl : Nat → Addr} {f : Addr} {fd : FuncData} (me : Meth K (cl 4) "redo" f) (B : Blt mg) (Z : ZZ K w mg cl) (Fn : Fun K "redo" "Desk.redo" s_Desk_redo f fd) : MetX P w K mg base 1 (cl 4) "redo" [] (fun vs zs => vs ++ zs) (spX FK ⟨K, cl⟩ (S_redoDe)) := by
  have fz := Z.z0
  refine metXD Z.z4.cls me Fn sc_Desk_redo (by intro ds W post ex h; first | (obtain ⟨rfl, _⟩ := h; rfl) | (obtain ⟨_, rfl, _⟩ := h; rfl) | (obtain ⟨_, _, rfl, _⟩ := h; rfl) | (obtain ⟨_, _, _, rfl, _⟩ := h; rfl) | (obtain ⟨_, _, _, _, rfl, _⟩ := h; rfl) | (obtain ⟨_, _, _, _, _, rfl, _⟩ := h; rfl) | (obtain ⟨_, _, _, _, _, _, rfl, _⟩ := h; rfl) | (obtain ⟨_, _, _, _, _, _, _, rfl, _⟩ := h; rfl) | (obtain ⟨_, _, _, _, _, _, _, _, rfl, _⟩ := h; rfl) | (obtain ⟨_, _, _, _, _, _, _, _, _, rfl, _⟩ := h; rfl) | (obtain ⟨_, _, _, _, _, _, _, _, _, _, rfl, _⟩ := h; rfl) | (obtain ⟨_, _, _, _, _, _, _, _, _, _, _, rfl, _⟩ := h; rfl)) (fun _ _ _ _ _ _ us hl => match us, hl with | [_], _ => rfl) (kb1_of (g := fun us ws => us ++ ws) Fn (fun _ _ _ _ _ _ u ws hl => match ws, hl with | [], _ => rfl) (fun h1 h2 => by first | exact h1.append h2 | exact h1.append h2.reverse)) fun cdv A outer s H E hr => ⟨_, pss_cons (ps_if (pt_cmpR (op_eqT0 hr.units) (pe_fld (pv 0) rfl) (pe_tup pa_nil) (nomark _)) (pss_one (ps_raise rfl (takes_of rfl rfl rfl rfl) (pmk_er0 Z.r101 (by rfl)))) (pss_nil))
 (pss_cons (ps_fld (pv 0) (pe_tup (StX.pa_star (pe_fld (pv 0) rfl) (pa_cons (pe_fld (pv 0) rfl) pa_nil))) rfl)
 (pss_cons (ps_fld (pv 0) (pe_ix ix_tup (pe_fld (pv 0) rfl) (pe_un un_neg pe_int) (fun _ _ => rfl)) rfl)
 (pss_one (ps_fld (pv 0) (pe_slice sl_tupA (pe_fld (pv 0) rfl) po_none (po_some (pe_un un_neg pe_int))) rfl)))), ?_⟩
  rintro ds W post ex ⟨p, r, as, ls, rfl, rfl, hls, kx, k⟩
  try dsimp only [cxOf, Cx.nox, Cx.wish]
  have h16 := sizeLine_eq
  have hi : Inst FK [(p, deO r as ls)] (.adr p) 4 deNames [rlD r, tupR as, tupR ls] := inst_de List.mem_cons_self
  refine swx_seq (swx_if (et_test (ev_op (ev_fld (ev_var rfl ?_)))))
  refine ⟨4, deNames, _, _, hi, Z.z4.cls, Z.z4.nos _ (by decide +kernel), rfl, ?_⟩
  refine ev_tup (ea_nil ⟨by show 0 ≤ _; omega, ?_⟩)
  refine bo_eqT0 ⟨_, rfl, ?_⟩
  rcases List.eq_nil_or_concat ls with rfl | ⟨bs, q, rfl⟩
  · refine if_so rfl ?_
    exact swx_raise0 (kx rfl)
  simp only [List.concat_eq_append] at *
  refine if_not (by simp) ?_
  refine swx_next ?_
  have k1 := k bs q rfl
  walk_at "st"
  refine ea_star (ev_fld (ev_var rfl ?_))
  refine ⟨4, deNames, _, _, hi, Z.z4.cls, Z.z4.nos _ (by decide +kernel), rfl, ?_⟩
  refine ⟨as.map rlD, .inr rfl, ?_⟩
  refine ea_cons (ev_fld (ev_var rfl ?_))
  refine ⟨4, deNames, _, _, hi, Z.z4.cls, Z.z4.nos _ (by decide +kernel), rfl, ?_⟩
  refine ea_nil ⟨by rw [List.length_append, List.length_map]; simp only [List.length_cons, List.length_nil]; omega, ?_⟩
  walk_at "st"
  refine rcv_de Z.z4 1 (by decide +kernel) (by decide +kernel) ?_
  try dsimp only
  refine swx_seq (swx_fld (ev_op (ev_fld (ev_var rfl ?_))))
  refine ⟨4, deNames, _, _, .own _ _ _ _ List.mem_cons_self, Z.z4.cls, Z.z4.nos _ (by decide +kernel), rfl, ?_⟩
  walk_at "st"
  unfold tupR
  rw [List.map_append]
  refine bo_ixT (atI_snoc _ _) ?_
  walk_at "st"
  refine rcv_de Z.z4 0 (by decide +kernel) (by decide +kernel) ?_
  try dsimp only
  refine swx_fld (ev_sl (ev_fld (ev_var rfl ?_)))
  refine ⟨4, deNames, _, _, .own _ _ _ _ List.mem_cons_self, Z.z4.cls, Z.z4.nos _ (by decide +kernel), rfl, ?_⟩
  walk_at "st"
  refine ca_slT ?_
  rw [show cutD (bs.map rlD ++ List.map rlD [q]) none (some (-1)) = bs.map rlD from cutD_snoc _ _]
  walk_at "st"
  refine rcv_de Z.z4 2 (by decide +kernel) (by decide +kernel) ?_
  walk_at "st"
  unfold deO at k1
  rw [tupR_snoc] at k1
  exact k1
theorem mx_Desk {P : Program} {w : World} {K : PySem.W.Frag} {mg : Str → Option Value} {base : Heap} {cl : Nat → Addr} {f : Addr} {fd : FuncData} (mk : Mk K (cl 4) f) (B : Blt mg) (Z : ZZ K w mg cl) (Fn : Fun K "__init__" "Desk.__init__" s_Desk___init__ f fd) : MakX P w K mg base 1 "Desk" (cl 4) 1 ["rules"] (fun vs zs => vs ++ zs) (spX FK ⟨K, cl⟩ (S_initDeX)) := by
  have fz := Z.z0
  refine makXD (S := S_initDeX) (ks := ["rules"]) (gV := fun vs zs => vs ++ zs) mk Z.g_Desk Fn sc_Desk___init__ (by intro ds W post ex h; first | (obtain ⟨rfl, _⟩ := h; rfl) | (obtain ⟨_, rfl, _⟩ := h; rfl) | (obtain ⟨_, _, rfl, _⟩ := h; rfl) | (obtain ⟨_, _, _, rfl, _⟩ := h; rfl) | (obtain ⟨_, _, _, _, rfl, _⟩ := h; rfl) | (obtain ⟨_, _, _, _, _, rfl, _⟩ := h; rfl) | (obtain ⟨_, _, _, _, _, _, rfl, _⟩ := h; rfl) | (obtain ⟨_, _, _, _, _, _, _, rfl, _⟩ := h; rfl) | (obtain ⟨_, _, _, _, _, _, _, _, rfl, _⟩ := h; rfl) | (obtain ⟨_, _, _, _, _, _, _, _, _, rfl, _⟩ := h; rfl) | (obtain ⟨_, _, _, _, _, _, _, _, _, _, rfl, _⟩ := h; rfl) | (obtain ⟨_, _, _, _, _, _, _, _, _, _, _, rfl, _⟩ := h; rfl)) (fun _ _ _ _ _ _ us hl => match us, hl with | [_, _], _ => rfl) (kb1_of (g := fun us ws => us ++ ws) Fn (fun _ _ _ _ _ _ u ws hl => match ws, hl with | [_], _ => rfl) (fun h1 h2 => by first | exact h1.append h2 | exact h1.append h2.reverse)) fun cdv A outer s H E hr => ⟨_, pss_cons (ps_fld (pv 0) (pv 1) rfl)
 (pss_cons (ps_fld (pv 0) (pe_tup pa_nil) rfl)
 (pss_one (ps_fld (pv 0) (pe_tup pa_nil) rfl))), ?_⟩
  rintro ds W post ex ⟨x, r, rfl, rfl, k⟩
  try dsimp only [cxOf, Cx.nox, Cx.wish]
  walk_at "st"
  refine rcv_newC Z.z4 (by decide +kernel) (by decide +kernel) (by decide) ?_
  walk_at "st"
  refine rcv_newC Z.z4 (by decide +kernel) (by decide +kernel) (by decide) ?_
  walk_at "st"
  refine rcv_newC Z.z4 (by decide +kernel) (by decide +kernel) (by decide) ?_
  walk_at "st"
  exact k
end
section
abbrev s_law_deck : Stmt := top 46
theorem sc_law_deck : FnScope ["_law_script", "_law_cells", "_law_blend", "_law_cell"] ["_law_script"] (defScope s_law_deck) := ⟨rfl, rfl, rfl, by decide +kernel, rfl, by decide +kernel, by decide +kernel⟩
theorem c_law_deck {P : Program} {w : World} {K : PySem.W.Frag} {mg : Str → Option Value} {base : Heap} {cl : Nat → Addr} {f : Addr} {fd : FuncData} (hm : mg "_law_deck" = some (.ref f)) (B : Blt mg) (Z : ZZ K w mg cl) (Fn : Fun K "_law_deck" "_law_deck" s_law_deck f fd) : Cal P w K mg base 1 "_law_deck" (spN FK ⟨K, cl⟩ (S_deck DkC)) [] := by
  have fz := Z.z0
  refine calD hm Fn sc_law_deck (by intro ds W post h; first | (obtain ⟨rfl, _⟩ := h; rfl) | (obtain ⟨_, rfl, _⟩ := h; rfl) | (obtain ⟨_, _, rfl, _⟩ := h; rfl) | (obtain ⟨_, _, _, rfl, _⟩ := h; rfl) | (obtain ⟨_, _, _, _, rfl, _⟩ := h; rfl) | (obtain ⟨_, _, _, _, _, rfl, _⟩ := h; rfl) | (obtain ⟨_, _, _, _, _, _, rfl, _⟩ := h; rfl) | (obtain ⟨_, _, _, _, _, _, _, rfl, _⟩ := h; rfl) | (obtain ⟨_, _, _, _, _, _, _, _, rfl, _⟩ := h; rfl) | (obtain ⟨_, _, _, _, _, _, _, _, _, rfl, _⟩ := h; rfl) | (obtain ⟨_, _, _, _, _, _, _, _, _, _, rfl, _⟩ := h; rfl) | (obtain ⟨_, _, _, _, _, _, _, _, _, _, _, rfl, _⟩ := h; rfl)) (fun _ _ _ _ _ _ us hl => match us, hl with | [_], _ => rfl) fun cdv A outer s H E hr => ⟨_, pss_cons (ps_par (i := 1) (j := 2) (by rfl) sc_law_deck.nd rfl rfl (by decide) rfl rfl (pa_cons (pe_callTy call_list_of (by rfl) B.list bt_list (pa_cons (pe_slice sl_list (pv 0) po_none (po_some pe_int)) pa_nil)) (pa_cons pe_int pa_nil)) (by rfl))
 (pss_cons (ps_for PassesOwn.never rfl (pi_list (pv 1)) (pg_name (i := 3) sc_law_deck.nd rfl (Or.inl rfl)) (pss_one (ps_set (i := 2) sc_law_deck.nd rfl (Or.inl rfl) (pe_op op_mod (pe_callTy call_int1 (by rfl) B.int bt_int (pa_cons (pe_op op_add (pe_op op_add (pe_op op_mul (pv 2) pe_int) (pe_op op_mod (pe_callTy call_int1 (by rfl) B.int bt_int (pa_cons (pv 3) pa_nil)) pe_int)) pe_int) pa_nil)) pe_int))))
 (pss_one (ps_ret (pe_disp (pps_cons pe_str (pe_revL (pv 1)) (pps_cons pe_str (pv 2) (pps_cons pe_str pe_int pps_nil))) (by rfl) (by rfl) (fun z => by cases z) (by decide))))), ?_⟩
  rintro ds W post ⟨ns, rfl, rfl, hl, k⟩
  try dsimp only [cxOf, Cx.nox, Cx.wish]
  have hc : cutD ((ns.map V.int).map D.vl) none (some 63) = ns.map D.int := (cut63 (by simpa using hl)).trans (by rw [List.map_map]; rfl)
  walk_at "st"
  rw [hc]
  refine ca_listF (.inl (.inl (.inl rfl))) ?_
  walk_at "st"
  refine sw_for (ei_list ?_)
  walk_at "st"
  refine ⟨fun i G W => W = [] ∧ ∃ (st : Int) (o : Option D), 0 ≤ st ∧ st < 2147483648 ∧ G = [some (.scr (ns.map V.int)), some (.lst (ns.map D.int)), some (.int st), o], ⟨rfl, _, _, by omega, by omega, rfl⟩, ?_, ?_⟩
  · rintro i d G' W' hd ⟨rfl, st, o, h0, h1, rfl⟩
    rw [List.getElem?_map] at hd
    obtain ⟨z, hz, e⟩ := Option.map_eq_some_iff.mp hd
    subst e
    refine tg_name ?_
    walk_at "st"
    exact ⟨rfl, _, _, Int.emod_nonneg _ (by omega), Int.lt_of_lt_of_le (Int.emod_lt_of_pos _ (by omega)) (by omega), rfl⟩
  · rintro G' W' ⟨rfl, st, o, h0, h1, rfl⟩
    refine sw_ret (ev_disp (eps_cons (ev_c (ev_revL ?_))))
    walk_at "st"
    refine ⟨_, .inl (.inl rfl), fun p hp => ?_⟩
    walk_at "st"
    refine ⟨by simp, fun p2 hp2 => ?_⟩
    rw [mergeG_nd (by simp only [List.map_cons, List.map_nil, List.nil_append, List.cons_append]; decide +kernel)]
    refine k p2 _ ⟨p, ns.reverse, st, 0, ?_, by simp; omega, by omega, by omega⟩
    unfold dkC
    rw [List.map_reverse]
    rfl
abbrev s_law_draw : Stmt := top 47
theorem sc_law_draw : FnScope ["_law_deck_here", "_law_many", "_law_turn", "_law_cell", "_law_kept"] ["_law_deck_here", "_law_many"] (defScope s_law_draw) := ⟨rfl, rfl, rfl, by decide +kernel, rfl, by decide +kernel, by decide +kernel⟩
theorem c_law_draw {P : Program} {w : World} {K : PySem.W.Frag} {mg : Str → Option Value} {base : Heap} {cl : Nat → Addr} {f : Addr} {fd : FuncData} (hm : mg "_law_draw" = some (.ref f)) (B : Blt mg) (Z : ZZ K w mg cl) (Fn : Fun K "_law_draw" "_law_draw" s_law_draw f fd) : Cal P w K mg base 1 "_law_draw" (spN FK ⟨K, cl⟩ (S_draw DkC)) [] := by
  have fz := Z.z0
  refine calD hm Fn sc_law_draw (by intro ds W post h; first | (obtain ⟨rfl, _⟩ := h; rfl) | (obtain ⟨_, rfl, _⟩ := h; rfl) | (obtain ⟨_, _, rfl, _⟩ := h; rfl) | (obtain ⟨_, _, _, rfl, _⟩ := h; rfl) | (obtain ⟨_, _, _, _, rfl, _⟩ := h; rfl) | (obtain ⟨_, _, _, _, _, rfl, _⟩ := h; rfl) | (obtain ⟨_, _, _, _, _, _, rfl, _⟩ := h; rfl) | (obtain ⟨_, _, _, _, _, _, _, rfl, _⟩ := h; rfl) | (obtain ⟨_, _, _, _, _, _, _, _, rfl, _⟩ := h; rfl) | (obtain ⟨_, _, _, _, _, _, _, _, _, rfl, _⟩ := h; rfl) | (obtain ⟨_, _, _, _, _, _, _, _, _, _, rfl, _⟩ := h; rfl) | (obtain ⟨_, _, _, _, _, _, _, _, _, _, _, rfl, _⟩ := h; rfl)) (fun _ _ _ _ _ _ us hl => match us, hl with | [_, _], _ => rfl) fun cdv A outer s H E hr => ⟨_, pss_cons (ps_dput (by exact hu_of hr) (pv 0) pe_str (pe_op op_add (pe_dget (by exact hu_of hr) (pv 0) pe_str (fun _ _ => rfl)) pe_int) rfl)
 (pss_cons (ps_par (i := 2) (j := 3) (by rfl) sc_law_draw.nd rfl rfl (by decide) rfl rfl (pa_cons (pe_dget (by exact hu_of hr) (pv 0) pe_str (fun _ _ => rfl)) (pa_cons (pe_dget (by exact hu_of hr) (pv 0) pe_str (fun _ _ => rfl)) pa_nil)) (by rfl))
 (pss_cons (ps_if (pt_cmpR (op_neD hr.units) (pe_dget (by exact hu_of hr) (pv 0) pe_str (fun _ _ => rfl)) (pe_lst pa_nil) (nomark _)) (pss_cons (ps_set (i := 3) sc_law_draw.nd rfl (Or.inl rfl) (pe_bm0 PySem.F.plainAttrs_list PySem.F.slot_list_pop PySem.F.type_list_pop mt_pop (pe_dget (by exact hu_of hr) (pv 0) pe_str (fun _ _ => rfl))))
 (pss_cons (ps_if (pt_cmpR op_ge (pv 3) (pe_op op_pow pe_int pe_int) (nomark _)) (pss_cons (ps_expr (pe_bm PySem.F.plainAttrs_list PySem.F.slot_list_append PySem.F.type_list_append mt_append (pe_dget (by exact hu_of hr) (pv 0) pe_str (fun _ _ => rfl)) (pa_cons (pe_op op_fdiv (pv 3) (pv 1)) pa_nil)))
 (pss_one (ps_ret (pe_op op_mod (pe_callTy call_int1 (by rfl) B.int bt_int (pa_cons (pv 3) pa_nil)) (pv 1))))) (pss_nil))
 (pss_one (ps_set (i := 3) sc_law_draw.nd rfl (Or.inl rfl) (pe_op op_add (pe_callTy call_int1 (by rfl) B.int bt_int (pa_cons (pv 3) pa_nil)) (pe_dget (by exact hu_of hr) (pv 0) pe_str (fun _ _ => rfl))))))) (pss_nil))
 (pss_cons (ps_set (i := 4) sc_law_draw.nd rfl (Or.inl rfl) (pe_op op_mul (pe_callTy call_int1 (by rfl) B.int bt_int (pa_cons (pe_op op_add (pe_op op_add (pe_op op_mod (pe_callTy call_int1 (by rfl) B.int bt_int (pa_cons (pv 3) pa_nil)) pe_int) (pe_op op_mul (pe_op op_mul pe_int (pv 2)) (pv 2))) pe_int) pa_nil)) pe_int))
 (pss_cons (ps_set (i := 4) sc_law_draw.nd rfl (Or.inl rfl) (pe_op op_mod (pe_callTy call_int1 (by rfl) B.int bt_int (pa_cons (pv 4) pa_nil)) pe_int))
 (pss_cons (ps_set (i := 4) sc_law_draw.nd rfl (Or.inl rfl) (pe_op op_mod (pe_callTy call_int1 (by rfl) B.int bt_int (pa_cons (pe_op op_add (pe_op op_add (pe_op op_mul (pv 4) (pv 4)) (pe_op op_mul pe_int (pv 2))) pe_int) pa_nil)) pe_int))
 (pss_one (ps_ret (pe_op op_mod (pe_op op_fdiv (pe_op op_mod (pe_callTy call_int1 (by rfl) B.int bt_int (pa_cons (pe_op op_mul (pv 4) pe_int) pa_nil)) pe_int) pe_int) (pv 1))))))))), ?_⟩
  rintro ds W post ⟨a, c, n, rfl, ⟨l, cells, s, m, rfl, hl, c0, c2⟩, n0, n1, c1, k⟩
  try dsimp only [cxOf, Cx.nox, Cx.wish]
  have h16 := sizeLine_eq
  walk_at "st"
  refine ⟨a, _, Sum.inr _, [], _, rfl, rfl, rfl, by simp; omega, ?_⟩
  rw [putG_set (i := 2) (by simp only [List.map_cons, List.map_nil]; decide +kernel) rfl]
  walk_at "st"
  refine bo_neD (vp_ints (.inr ⟨_, rfl, List.mem_cons_of_mem _ List.mem_cons_self⟩)) vp_nil (shaped_ints cells) rfl ⟨_, rfl, ?_⟩
  rw [eqv_nil]
  rcases List.eq_nil_or_concat cells with e | ⟨init, x, e⟩
  · subst e
    refine if_not rfl ?_
    walk_at "st"
    exact k _ _ (Int.emod_nonneg _ (by omega)) (Int.emod_lt_of_pos _ n0) ⟨l, [], s, m + 1, rfl, by simp, by omega, by omega⟩
  · subst e
    refine if_so (by simp) ?_
    refine sw_seq (sw_set (ev_pop ?_))
    walk_at "st"
    refine ⟨l, init.map D.int, [(a, .dp [(kS "cells", .adr l), (kS "blend", .int s), (kS "draws", .int (m + 1))])], [], .int x, rfl, by simp, ?_⟩
    walk_at "st"
    refine if_dec (fun hx => ?_) (fun hx => ?_)
    · refine sw_seq (sw_drop (ev_append ?_))
      walk_at "st"
      refine ⟨l, init.map D.int, [_], [], rfl, rfl, ?_⟩
      walk_at "st"
      refine ⟨init.map D.int, [_], [], _, rfl, rfl, ?_, ?_⟩
      · simp at hl ⊢
        omega
      walk_at "st"
      have := k (x % n) (dkC a l (init ++ [x / n]) s (m + 1)) (Int.emod_nonneg _ (by omega)) (Int.emod_lt_of_pos _ n0) ⟨l, init ++ [x / n], s, m + 1, rfl, by simp at hl ⊢; omega, by omega, by omega⟩
      rw [dkC, List.map_append] at this
      exact this
    · walk_at "st"
      exact k _ (dkC a l init s (m + 1)) (Int.emod_nonneg _ (by omega)) (Int.emod_lt_of_pos _ n0) ⟨l, init, s, m + 1, rfl, by simp at hl ⊢; omega, by omega, by omega⟩
abbrev s_law_pick : Stmt := top 48
theorem sc_law_pick : FnScope ["_law_deck_here", "_law_lot"] ["_law_deck_here", "_law_lot"] (defScope s_law_pick) := ⟨rfl, rfl, rfl, by decide +kernel, rfl, by decide +kernel, by decide +kernel⟩
theorem c_law_pick {P : Program} {w : World} {K : PySem.W.Frag} {mg : Str → Option Value} {base : Heap} {cl : Nat → Addr} {f : Addr} {fd : FuncData} (hm : mg "_law_pick" = some (.ref f)) (B : Blt mg) (Z : ZZ K w mg cl) (Fn : Fun K "_law_pick" "_law_pick" s_law_pick f fd)
    (c_law_draw : Cal P w K mg base 1 "_law_draw" (spN FK ⟨K, cl⟩ (S_draw DkC)) []) : Cal P w K mg base 2 "_law_pick" (spN FK ⟨K, cl⟩ (S_pick DkC)) [] := by
  have fz := Z.z0
  refine calD hm Fn sc_law_pick (by intro ds W post h; first | (obtain ⟨rfl, _⟩ := h; rfl) | (obtain ⟨_, rfl, _⟩ := h; rfl) | (obtain ⟨_, _, rfl, _⟩ := h; rfl) | (obtain ⟨_, _, _, rfl, _⟩ := h; rfl) | (obtain ⟨_, _, _, _, rfl, _⟩ := h; rfl) | (obtain ⟨_, _, _, _, _, rfl, _⟩ := h; rfl) | (obtain ⟨_, _, _, _, _, _, rfl, _⟩ := h; rfl) | (obtain ⟨_, _, _, _, _, _, _, rfl, _⟩ := h; rfl) | (obtain ⟨_, _, _, _, _, _, _, _, rfl, _⟩ := h; rfl) | (obtain ⟨_, _, _, _, _, _, _, _, _, rfl, _⟩ := h; rfl) | (obtain ⟨_, _, _, _, _, _, _, _, _, _, rfl, _⟩ := h; rfl) | (obtain ⟨_, _, _, _, _, _, _, _, _, _, _, rfl, _⟩ := h; rfl)) (fun _ _ _ _ _ _ us hl => match us, hl with | [_, _], _ => rfl) fun cdv A outer s H E hr => ⟨_, pss_one (ps_ret (pe_ix ix_seq (pv 1) (pe_c c_law_draw hr (by omega) (by rfl) (pa_cons (pv 0) (pa_cons (pe_callB call_len (by rfl) B.len bt_len (pa_cons (pv 1) pa_nil)) pa_nil))) (fun _ _ => rfl))), ?_⟩
  rintro ds W post ⟨a, c, m, rfl, hd, hc, h⟩
  try dsimp only [cxOf, Cx.nox, Cx.wish]
  rcases h with ⟨l, hm, hne, hl, h⟩ | ⟨x, rfl, hne, hl, h⟩
  · have hv : Vs W m l := hm.elim (fun e => .inl (.inl (.inl e))) .inr
    walk_at "st"
    refine ca_len hv ?_
    have : 0 < l.length := List.length_pos_iff.mpr hne
    walk_at "st"
    refine handA ⟨a, c, _, rfl, hd, by omega, by omega, hc, fun z W' h0 h1 hd' => ?_⟩
    try walk_at "st"
    obtain ⟨y, hy, e⟩ := at_of_draw (l := l) h0 h1
    have hv' : Vs W' m l := hm.elim (fun e => .inl (.inl (.inl e))) .inr
    exact bo_ixSq hv' e (h y hy W' hd')
  · have h16 := sizeLine_eq
    walk_at "st"
    refine ca_lenS (by omega) ?_
    walk_at "st"
    refine handA ⟨a, c, _, rfl, hd, by omega, by omega, hc, fun z W' h0 h1 hd' => ?_⟩
    try walk_at "st"
    obtain ⟨y, hy, e⟩ := at_of_draw (l := lets x) h0 (by rw [← str_len]; exact h1)
    exact bo_ixSqS (by omega) e (h y hy W' hd')
end
section
abbrev s_law_formula : Stmt := top 49
theorem sc_law_formula : FnScope ["_law_tree_here"] ["_law_tree_here"] (defScope s_law_formula) := ⟨rfl, rfl, rfl, by decide +kernel, rfl, by decide +kernel, by decide +kernel⟩
theorem c_law_formula {P : Program} {w : World} {K : PySem.W.Frag} {mg : Str → Option Value} {base : Heap} {cl : Nat → Addr} {f : Addr} {fd : FuncData} (hm : mg "_law_formula" = some (.ref f)) (B : Blt mg) (Z : ZZ K w mg cl) (Fn : Fun K "_law_formula" "_law_formula" s_law_formula f fd)
    (m_Formula : MakR P w K mg base 2 "Formula" (cl 0) (spN FK ⟨K, cl⟩ (starS 2 S_init))) : ∀ j, Cal P w K mg base (5 + j) "_law_formula" (spN FK ⟨K, cl⟩ (S_builtC j)) [] := by
  have fz := Z.z0
  intro j
  induction j with
  | zero => exact calD (k := 4) hm Fn sc_law_formula (by intro ds W post h; first | (obtain ⟨rfl, _⟩ := h; rfl) | (obtain ⟨_, rfl, _⟩ := h; rfl) | (obtain ⟨_, _, rfl, _⟩ := h; rfl) | (obtain ⟨_, _, _, rfl, _⟩ := h; rfl) | (obtain ⟨_, _, _, _, rfl, _⟩ := h; rfl) | (obtain ⟨_, _, _, _, _, rfl, _⟩ := h; rfl) | (obtain ⟨_, _, _, _, _, _, rfl, _⟩ := h; rfl) | (obtain ⟨_, _, _, _, _, _, _, rfl, _⟩ := h; rfl) | (obtain ⟨_, _, _, _, _, _, _, _, rfl, _⟩ := h; rfl) | (obtain ⟨_, _, _, _, _, _, _, _, _, rfl, _⟩ := h; rfl) | (obtain ⟨_, _, _, _, _, _, _, _, _, _, rfl, _⟩ := h; rfl) | (obtain ⟨_, _, _, _, _, _, _, _, _, _, _, rfl, _⟩ := h; rfl)) (fun _ _ _ _ _ _ us hl => match us, hl with | [_], _ => rfl) fun cdv A outer s H E hr => ⟨_, pss_never, fun ds W post ⟨f, _, _, h, _⟩ => absurd h (Nat.not_lt_zero _)⟩
  | succ j c_law_formula =>
    refine calD (k := 5 + j) hm Fn sc_law_formula (by intro ds W post h; first | (obtain ⟨rfl, _⟩ := h; rfl) | (obtain ⟨_, rfl, _⟩ := h; rfl) | (obtain ⟨_, _, rfl, _⟩ := h; rfl) | (obtain ⟨_, _, _, rfl, _⟩ := h; rfl) | (obtain ⟨_, _, _, _, rfl, _⟩ := h; rfl) | (obtain ⟨_, _, _, _, _, rfl, _⟩ := h; rfl) | (obtain ⟨_, _, _, _, _, _, rfl, _⟩ := h; rfl) | (obtain ⟨_, _, _, _, _, _, _, rfl, _⟩ := h; rfl) | (obtain ⟨_, _, _, _, _, _, _, _, rfl, _⟩ := h; rfl) | (obtain ⟨_, _, _, _, _, _, _, _, _, rfl, _⟩ := h; rfl) | (obtain ⟨_, _, _, _, _, _, _, _, _, _, rfl, _⟩ := h; rfl) | (obtain ⟨_, _, _, _, _, _, _, _, _, _, _, rfl, _⟩ := h; rfl)) (fun _ _ _ _ _ _ us hl => match us, hl with | [_], _ => rfl) fun cdv A outer s H E hr => ⟨_, pss_cons (ps_if (pt_cmpR op_eq (pe_ix ix_tup (pv 0) pe_int (fun _ _ => rfl)) pe_str (nomark _)) (pss_one (ps_ret (pe_mkR m_Formula hr (by omega) (by rfl) (pa_cons pe_str pa_nil)))) (pss_nil))
 (pss_cons (ps_if (pt_cmpR op_eq (pe_ix ix_tup (pv 0) pe_int (fun _ _ => rfl)) pe_str (nomark _)) (pss_one (ps_ret (pe_mkR m_Formula hr (by omega) (by rfl) (pa_cons pe_str (pa_cons (pe_ix ix_tup (pv 0) pe_int (fun _ _ => rfl)) pa_nil))))) (pss_nil))
 (pss_cons (ps_if (pt_cmpR op_eq (pe_ix ix_tup (pv 0) pe_int (fun _ _ => rfl)) pe_str (nomark _)) (pss_one (ps_ret (pe_mkR m_Formula hr (by omega) (by rfl) (pa_cons pe_str (pa_cons (pe_c c_law_formula hr (by omega) (by rfl) (pa_cons (pe_ix ix_tup (pv 0) pe_int (fun _ _ => rfl)) pa_nil)) pa_nil))))) (pss_nil))
 (pss_one (ps_ret (pe_mkR m_Formula hr (by omega) (by rfl) (pa_cons pe_str (pa_cons (pe_c c_law_formula hr (by omega) (by rfl) (pa_cons (pe_ix ix_tup (pv 0) pe_int (fun _ _ => rfl)) pa_nil)) (pa_cons (pe_c c_law_formula hr (by omega) (by rfl) (pa_cons (pe_ix ix_tup (pv 0) pe_int (fun _ _ => rfl)) pa_nil)) pa_nil)))))))), ?_⟩
    rintro ds W post ⟨f, rfl, rfl, hj, hf, k⟩
    try dsimp only [cxOf, Cx.nox, Cx.wish]
    cases f with
    | «at» c =>
      simp only [Fm.trC]
      walk_at "st"
      exact ⟨.at c, rfl, hf, k⟩
    | no =>
      simp only [Fm.trC]
      walk_at "st"
      exact ⟨.no, rfl, hf, k⟩
    | all a =>
      simp only [Fm.trC, Fm.ht] at hj ⊢
      walk_at "st"
      refine hand0 ⟨a, rfl, rfl, by omega, hf.a, ?_⟩
      try simp only [List.nil_append]
      try walk_at "st"
      exact ⟨.all a, rfl, hf, k⟩
    | imp a b =>
      simp only [Fm.trC, Fm.ht] at hj ⊢
      walk_at "st"
      refine hand0 ⟨a, rfl, rfl, by omega, hf.l, ?_⟩
      try simp only [List.nil_append]
      try walk_at "st"
      refine hand0 ⟨b, rfl, rfl, by omega, hf.r, ?_⟩
      try simp only [List.nil_append]
      try walk_at "st"
      exact ⟨.imp a b, rfl, hf, k⟩
abbrev s_law_tree : Stmt := top 50
theorem sc_law_tree : FnScope ["_law_deck_here", "_law_letters", "_law_deep", "_law_way", "_law_first"] ["_law_deck_here", "_law_letters", "_law_deep"] (defScope s_law_tree) := ⟨rfl, rfl, rfl, by decide +kernel, rfl, by decide +kernel, by decide +kernel⟩
theorem c_law_tree {P : Program} {w : World} {K : PySem.W.Frag} {mg : Str → Option Value} {base : Heap} {cl : Nat → Addr} {f : Addr} {fd : FuncData} (hm : mg "_law_tree" = some (.ref f)) (B : Blt mg) (Z : ZZ K w mg cl) (Fn : Fun K "_law_tree" "_law_tree" s_law_tree f fd)
    (c_law_draw : Cal P w K mg base 1 "_law_draw" (spN FK ⟨K, cl⟩ (S_draw DkC)) [])
    (c_law_pick : Cal P w K mg base 2 "_law_pick" (spN FK ⟨K, cl⟩ (S_pick DkC)) []) : ∀ j, Cal P w K mg base (3 + j) "_law_tree" (spN FK ⟨K, cl⟩ (S_treeC j)) [] := by
  have fz := Z.z0
  intro j
  induction j with
  | zero => exact calD (k := 2) hm Fn sc_law_tree (by intro ds W post h; first | (obtain ⟨rfl, _⟩ := h; rfl) | (obtain ⟨_, rfl, _⟩ := h; rfl) | (obtain ⟨_, _, rfl, _⟩ := h; rfl) | (obtain ⟨_, _, _, rfl, _⟩ := h; rfl) | (obtain ⟨_, _, _, _, rfl, _⟩ := h; rfl) | (obtain ⟨_, _, _, _, _, rfl, _⟩ := h; rfl) | (obtain ⟨_, _, _, _, _, _, rfl, _⟩ := h; rfl) | (obtain ⟨_, _, _, _, _, _, _, rfl, _⟩ := h; rfl) | (obtain ⟨_, _, _, _, _, _, _, _, rfl, _⟩ := h; rfl) | (obtain ⟨_, _, _, _, _, _, _, _, _, rfl, _⟩ := h; rfl) | (obtain ⟨_, _, _, _, _, _, _, _, _, _, rfl, _⟩ := h; rfl) | (obtain ⟨_, _, _, _, _, _, _, _, _, _, _, rfl, _⟩ := h; rfl)) (fun _ _ _ _ _ _ us hl => match us, hl with | [_, _, _], _ => rfl) fun cdv A outer s H E hr => ⟨_, pss_never, fun ds W post ⟨a, c, p, n, _, _, h, _⟩ => absurd h (Nat.not_lt_zero _)⟩
  | succ j c_law_tree =>
    refine calD (k := 3 + j) hm Fn sc_law_tree (by intro ds W post h; first | (obtain ⟨rfl, _⟩ := h; rfl) | (obtain ⟨_, rfl, _⟩ := h; rfl) | (obtain ⟨_, _, rfl, _⟩ := h; rfl) | (obtain ⟨_, _, _, rfl, _⟩ := h; rfl) | (obtain ⟨_, _, _, _, rfl, _⟩ := h; rfl) | (obtain ⟨_, _, _, _, _, rfl, _⟩ := h; rfl) | (obtain ⟨_, _, _, _, _, _, rfl, _⟩ := h; rfl) | (obtain ⟨_, _, _, _, _, _, _, rfl, _⟩ := h; rfl) | (obtain ⟨_, _, _, _, _, _, _, _, rfl, _⟩ := h; rfl) | (obtain ⟨_, _, _, _, _, _, _, _, _, rfl, _⟩ := h; rfl) | (obtain ⟨_, _, _, _, _, _, _, _, _, _, rfl, _⟩ := h; rfl) | (obtain ⟨_, _, _, _, _, _, _, _, _, _, _, rfl, _⟩ := h; rfl)) (fun _ _ _ _ _ _ us hl => match us, hl with | [_, _, _], _ => rfl) fun cdv A outer s H E hr => ⟨_, pss_cons (ps_set (i := 3) sc_law_tree.nd rfl (Or.inl rfl) (pe_ifExp (pt_cmpR op_gt (pv 2) pe_int (nomark _)) (pe_c c_law_draw hr (by omega) (by rfl) (pa_cons (pv 0) (pa_cons pe_int pa_nil))) (pe_c c_law_draw hr (by omega) (by rfl) (pa_cons (pv 0) (pa_cons pe_int pa_nil)))))
 (pss_cons (ps_if (pt_cmpR op_lt (pv 3) pe_int (nomark _)) (pss_one (ps_ret (pe_ifExp (pt_cmpR op_eq (pv 3) pe_int (nomark _)) (pe_tup (pa_cons pe_str pa_nil)) (pe_tup (pa_cons pe_str (pa_cons (pe_c c_law_pick hr (by omega) (by rfl) (pa_cons (pv 0) (pa_cons (pv 1) pa_nil))) pa_nil)))))) (pss_nil))
 (pss_cons (ps_if (pt_cmpR op_eq (pv 3) pe_int (nomark _)) (pss_one (ps_ret (pe_tup (pa_cons pe_str (pa_cons (pe_c c_law_tree hr (by omega) (by rfl) (pa_cons (pv 0) (pa_cons (pv 1) (pa_cons (pe_op op_sub (pv 2) pe_int) pa_nil)))) pa_nil))))) (pss_nil))
 (pss_cons (ps_set (i := 4) sc_law_tree.nd rfl (Or.inl rfl) (pe_c c_law_tree hr (by omega) (by rfl) (pa_cons (pv 0) (pa_cons (pv 1) (pa_cons (pe_op op_sub (pv 2) pe_int) pa_nil)))))
 (pss_one (ps_ret (pe_tup (pa_cons pe_str (pa_cons (pv 4) (pa_cons (pe_c c_law_tree hr (by omega) (by rfl) (pa_cons (pv 0) (pa_cons (pv 1) (pa_cons (pe_op op_sub (pv 2) pe_int) pa_nil)))) pa_nil))))))))), ?_⟩
    rintro ds W post ⟨a, c, p, n, rfl, hd, hj, hj2, hp, hp0, hp1, hc, k⟩
    try dsimp only [cxOf, Cx.nox, Cx.wish]
    have h2 := pow_le19 (n := n) (by omega)
    have h3 := pow_pos' n
    refine sw_seq (sw_set (Ev.imp (R := fun d W' => ∃ z : Int, d = .int z ∧ 0 ≤ z ∧ z < 7 ∧ (n = 0 → z < 3) ∧ DkC a (c + 1) W') ?_ ?_))
    · walk_at "st"
      refine if_dec (fun h => ?_) (fun h => ?_)
      · walk_at "st"
        refine handA ⟨a, c, 7, rfl, hd, by omega, by omega, by omega, fun z W' h0 h1 hd' => ⟨z, rfl, h0, h1, by omega, hd'⟩⟩
        try walk_at "st"
      · walk_at "st"
        refine handA ⟨a, c, 3, rfl, hd, by omega, by omega, by omega, fun z W' h0 h1 hd' => ⟨z, rfl, h0, by omega, by omega, hd'⟩⟩
        try walk_at "st"
    rintro d W1 ⟨z, rfl, z0, z1, z6, hd1⟩
    walk_at "st"
    refine if_dec (fun h => ?_) (fun h => ?_)
    · walk_at "st"
      refine if_dec (fun h5 => ?_) (fun h5 => ?_)
      · walk_at "st"
        exact k .no W1 trivial (by have : 1 ≤ (2 : Nat) ^ n := Nat.one_le_two_pow; rw [Nat.pow_succ]; simp only [Fm.many]; omega) (DkC_mono hd1 (by omega))
      · walk_at "st"
        refine handA ⟨a, _, _, rfl, hd1, by omega, .inr ⟨p, rfl, hp0, by omega, fun q hq W3 hd3 => ?_⟩⟩
        try walk_at "st"
        exact k (.at q) W3 (hp q hq) (by have : 1 ≤ (2 : Nat) ^ n := Nat.one_le_two_pow; rw [Nat.pow_succ]; simp only [Fm.many]; omega) (DkC_mono hd3 (by omega))
    obtain ⟨m, rfl⟩ : ∃ m, n = m + 1 := ⟨n - 1, by omega⟩
    have e2 : (2 : Int) ^ (m + 1) = 2 * 2 ^ m := by rw [Int.pow_succ, Int.mul_comm]
    have e3 : (2 : Nat) ^ (m + 1 + 1) = 2 * 2 ^ (m + 1) := by rw [Nat.pow_succ, Nat.mul_comm]
    have h4 := pow_pos' m
    walk_at "st"
    refine if_dec (fun h5 => ?_) (fun h5 => ?_)
    · walk_at "st"
      rw [str_nat]
      refine handA ⟨a, c + 1, p, m, rfl, hd1, by omega, by omega, hp, hp0, hp1, by omega, fun f W2 h1 h2 h3 => ?_⟩
      try walk_at "st"
      exact k (.all f) W2 h1 (by simp only [Fm.many]; omega) (DkC_mono h3 (by omega))
    · walk_at "st"
      rw [str_nat]
      refine handA ⟨a, c + 1, p, m, rfl, hd1, by omega, by omega, hp, hp0, hp1, by omega, fun f W2 f1 f2 f3 => ?_⟩
      try walk_at "st"
      rw [str_nat]
      refine handA ⟨a, c + 1 + (4 * 2 ^ m - 1), p, m, rfl, f3, by omega, by omega, hp, hp0, hp1, by omega, fun g W3 g1 g2 g3 => ?_⟩
      try walk_at "st"
      exact k (.imp f g) W3 ⟨f1, g1⟩ (by simp only [Fm.many]; omega) (DkC_mono g3 (by omega))
abbrev s_law_form : Stmt := top 51
theorem sc_law_form : FnScope ["_law_deck_here", "_law_marks", "_law_inner", "_law_small"] ["_law_deck_here", "_law_marks"] (defScope s_law_form) := ⟨rfl, rfl, rfl, by decide +kernel, rfl, by decide +kernel, by decide +kernel⟩
theorem c_law_form {P : Program} {w : World} {K : PySem.W.Frag} {mg : Str → Option Value} {base : Heap} {cl : Nat → Addr} {f : Addr} {fd : FuncData} (hm : mg "_law_form" = some (.ref f)) (B : Blt mg) (Z : ZZ K w mg cl) (Fn : Fun K "_law_form" "_law_form" s_law_form f fd)
    (c_law_pick : Cal P w K mg base 2 "_law_pick" (spN FK ⟨K, cl⟩ (S_pick DkC)) [])
    (c_law_tree : Cal P w K mg base 6 "_law_tree" (spN FK ⟨K, cl⟩ (S_treeC 3)) []) : Cal P w K mg base 7 "_law_form" (spN FK ⟨K, cl⟩ S_formC) [] := by
  have fz := Z.z0
  refine calD hm Fn sc_law_form (by intro ds W post h; first | (obtain ⟨rfl, _⟩ := h; rfl) | (obtain ⟨_, rfl, _⟩ := h; rfl) | (obtain ⟨_, _, rfl, _⟩ := h; rfl) | (obtain ⟨_, _, _, rfl, _⟩ := h; rfl) | (obtain ⟨_, _, _, _, rfl, _⟩ := h; rfl) | (obtain ⟨_, _, _, _, _, rfl, _⟩ := h; rfl) | (obtain ⟨_, _, _, _, _, _, rfl, _⟩ := h; rfl) | (obtain ⟨_, _, _, _, _, _, _, rfl, _⟩ := h; rfl) | (obtain ⟨_, _, _, _, _, _, _, _, rfl, _⟩ := h; rfl) | (obtain ⟨_, _, _, _, _, _, _, _, _, rfl, _⟩ := h; rfl) | (obtain ⟨_, _, _, _, _, _, _, _, _, _, rfl, _⟩ := h; rfl) | (obtain ⟨_, _, _, _, _, _, _, _, _, _, _, rfl, _⟩ := h; rfl)) (fun _ _ _ _ _ _ us hl => match us, hl with | [_, _], _ => rfl) fun cdv A outer s H E hr => ⟨_, pss_cons (ps_par (i := 2) (j := 3) (by rfl) sc_law_form.nd rfl rfl (by decide) rfl rfl (pa_cons (pe_tup (pa_cons pe_str (pa_cons (pe_c c_law_tree hr (by omega) (by rfl) (pa_cons (pv 0) (pa_cons (pe_op op_add_str (pv 1) pe_str) (pa_cons pe_int pa_nil)))) pa_nil))) (pa_cons (pe_tup (pa_cons pe_str (pa_cons (pe_c c_law_pick hr (by omega) (by rfl) (pa_cons (pv 0) (pa_cons pe_str pa_nil))) pa_nil))) pa_nil)) (by rfl))
 (pss_one (ps_ret (pe_c c_law_pick hr (by omega) (by rfl) (pa_cons (pv 0) (pa_cons (pe_lst (pa_cons (pv 2) (pa_cons (pe_tup (pa_cons pe_str (pa_cons (pv 3) (pa_cons (pv 2) pa_nil)))) (pa_cons (pe_tup (pa_cons pe_str (pa_cons (pv 2) (pa_cons (pe_tup (pa_cons pe_str pa_nil)) pa_nil)))) (pa_cons (pe_tup (pa_cons pe_str (pa_cons (pv 2) (pa_cons (pv 3) pa_nil)))) (pa_cons (pv 3) pa_nil)))))) pa_nil))))), ?_⟩
  rintro ds W post ⟨a, c, p, rfl, hd, hp, hl, hc, k⟩
  try dsimp only [cxOf, Cx.nox, Cx.wish]
  have h16 := sizeLine_eq
  have hab : ("ab" : Str).length = 2 := rfl
  refine sw_seq (sw_par ?_)
  refine ea_cons (ev_tup (ea_cons (ev_c (ea_cons (ev_call ?_)))))
  walk_at "st"
  refine bo_addS (by omega) ?_
  walk_at "st"
  have hpl : letters (p ++ "ab") := fun x hx => by
    have e : lets (p ++ "ab") = lets p ++ lets ("ab" : Str) := by show (p.cps ++ _).toList = _; simp [lets]
    rw [e] at hx
    rcases List.mem_append.mp hx with h | h
    · exact hp x h
    · exact (by decide +kernel : ∀ x ∈ lets ("ab" : Str), (65 ≤ x ∧ x ≤ 90) ∨ (97 ≤ x ∧ x ≤ 122)) x h
  have hpn : (p ++ "ab").length = p.length + 2 := by rw [str_app_len, hab]
  refine handA ⟨a, c, p ++ "ab", 2, rfl, hd, by omega, by omega, hpl, by omega, by omega, by omega, fun f W1 f1 f2 hd1 => ?_⟩
  try walk_at "st"
  have f2 : f.many ≤ 7 := by
    have e : (2 : Nat) ^ (2 + 1) = 8 := rfl
    omega
  have hd1 : DkC a (c + 15) W1 := hd1
  refine handA ⟨a, _, _, rfl, hd1, by omega, .inr ⟨"abm", rfl, by decide, by decide, fun q hq W2 hd2 => ?_⟩⟩
  try walk_at "st"
  have hq : 97 ≤ q ∧ q ≤ 122 := (by decide +kernel : ∀ q ∈ lets ("abm" : Str), 97 ≤ q ∧ q ≤ 122) q hq
  have hqL : (65 ≤ q ∧ q ≤ 90) ∨ (97 ≤ q ∧ q ≤ 122) := .inr hq
  have oq : ∀ x ∈ lets (Fm.at q).outer, 97 ≤ x := fun x hx => by
    have hx : x ∈ [q] := hx
    rw [List.mem_singleton] at hx
    omega
  have oi : ∀ x ∈ lets (Fm.all f).outer, 97 ≤ x := fun x hx => nomatch (show x ∈ ([] : List Nat) from hx)
  have on : ∀ x ∈ lets Fm.no.outer, 97 ≤ x := fun x hx => nomatch (show x ∈ ([] : List Nat) from hx)
  have oo : ∀ g h : Fm, (∀ x ∈ lets g.outer, 97 ≤ x) → (∀ x ∈ lets h.outer, 97 ≤ x) → ∀ x ∈ lets (Fm.imp g h).outer, 97 ≤ x := fun g h hg hh x hx => by
    rcases (show x ∈ lets (Fm.imp g h).outer ↔ _ from mem_unite).mp hx with z | z
    · exact hg x z
    · exact hh x z
  refine handA ⟨a, _, _, rfl, hd2, by omega, .inl ⟨_, .inl rfl, by simp, by simp, fun z hz W3 hd3 => ?_⟩⟩
  try walk_at "st"
  have hd3 : DkC a (c + 17) W3 := DkC_mono hd3 (by omega)
  simp only [List.mem_cons, List.not_mem_nil, or_false] at hz
  rcases hz with rfl | rfl | rfl | rfl | rfl
  · exact k (.all f) W3 f1 (by simp only [Fm.many]; omega) oi hd3
  · exact k (.imp (.at q) (.all f)) W3 ⟨hqL, f1⟩ (by simp only [Fm.many]; omega) (oo _ _ oq oi) hd3
  · exact k (.imp (.all f) .no) W3 ⟨f1, trivial⟩ (by simp only [Fm.many]; omega) (oo _ _ oi on) hd3
  · exact k (.imp (.all f) (.at q)) W3 ⟨f1, hqL⟩ (by simp only [Fm.many]; omega) (oo _ _ oi oq) hd3
  · exact k (.at q) W3 hqL (by simp only [Fm.many]; omega) oq hd3
end
section
abbrev s_law_rows : Stmt := top 54
theorem sc_law_rows : FnScope ["_law_forms", "_law_mark"] ["_law_forms"] (defScope s_law_rows) := ⟨rfl, rfl, rfl, by decide +kernel, rfl, by decide +kernel, by decide +kernel⟩
theorem c_law_rows {P : Program} {w : World} {K : PySem.W.Frag} {mg : Str → Option Value} {base : Heap} {cl : Nat → Addr} {f : Addr} {fd : FuncData} (hm : mg "_law_rows" = some (.ref f)) (B : Blt mg) (Z : ZZ K w mg cl) (Fn : Fun K "_law_rows" "_law_rows" s_law_rows f fd)
    (c_law_formula : Cal P w K mg base 25 "_law_formula" (spN FK ⟨K, cl⟩ (S_builtC 20)) []) : Cal P w K mg base 26 "_law_rows" (spN FK ⟨K, cl⟩ S_rowsC) [] := by
  have fz := Z.z0
  refine calD hm Fn sc_law_rows (by intro ds W post h; first | (obtain ⟨rfl, _⟩ := h; rfl) | (obtain ⟨_, rfl, _⟩ := h; rfl) | (obtain ⟨_, _, rfl, _⟩ := h; rfl) | (obtain ⟨_, _, _, rfl, _⟩ := h; rfl) | (obtain ⟨_, _, _, _, rfl, _⟩ := h; rfl) | (obtain ⟨_, _, _, _, _, rfl, _⟩ := h; rfl) | (obtain ⟨_, _, _, _, _, _, rfl, _⟩ := h; rfl) | (obtain ⟨_, _, _, _, _, _, _, rfl, _⟩ := h; rfl) | (obtain ⟨_, _, _, _, _, _, _, _, rfl, _⟩ := h; rfl) | (obtain ⟨_, _, _, _, _, _, _, _, _, rfl, _⟩ := h; rfl) | (obtain ⟨_, _, _, _, _, _, _, _, _, _, rfl, _⟩ := h; rfl) | (obtain ⟨_, _, _, _, _, _, _, _, _, _, _, rfl, _⟩ := h; rfl)) (fun _ _ _ _ _ _ us hl => match us, hl with | [_], _ => rfl) fun cdv A outer s H E hr => ⟨_, pss_one (ps_ret (pe_callTy call_tuple_of (by rfl) B.tuple bt_tuple (pa_cons (pe_lc (own := [("_law_mark", 1)]) (by rfl) sc_law_rows.nd (pi_list (pe_callB cr_sortedS (by rfl) B.sorted bt_sorted (pa_cons (pe_callTy (cr_listDk rfl) (by rfl) B.list bt_list (pa_cons (pv 0) pa_nil)) pa_nil))) (blkOk_by (own := [("_law_mark", 1)]) (N := ["_law_forms", "_law_mark"]) (sc := defScope s_law_rows) (by decide +kernel)) (fun _ _ _ _ _ => (pg_name (i := 1) sc_law_rows.nd rfl (Or.inl rfl))) (fun _ _ _ _ _ => pts_nil) (fun _ _ _ _ _ => (pe_tup (pa_cons (pv 1) (pa_cons (pe_c c_law_formula hr (by omega) (by rfl) (pa_cons (pe_dget (by exact hu_of hr) (pv 0) (pv 1) (fun _ _ => rfl)) pa_nil)) pa_nil))))) pa_nil))), ?_⟩
  rintro ds W post ⟨l, rfl, rfl, hl, k⟩
  try dsimp only [cxOf, Cx.nox, Cx.wish]
  have h16 := sizeLine_eq
  have hf := hl.few
  have hs := srtR_len hl.nd
  walk_at "st"
  refine ev_lcM (ei_list ?_)
  walk_at "st"
  refine ca_listDk (ps := frmC l) (.inl rfl) ?_
  refine ea_nil (ca_sortedSL (ns := l.map (·.1)) (.inl (.inl (congrArg D.lst (by unfold frmC tabL; rw [List.map_map, List.map_map]; rfl)))) hl.nd (by rw [List.length_map]; omega) ?_)
  walk_at "st"
  have ekeys : (ascN (l.map (·.1))).map (fun c => D.str (sg c)) = (srtR l).map fun p => D.str (sg p.1) := by rw [← srtR_keys, List.map_map]; rfl
  rw [ekeys]
  refine ⟨(srtR l).map fun p => .tup [.str (sg p.1), .fm p.2], fun i d e hd he => ?_, by simp, by rw [List.length_map]; omega, ?_⟩
  · rw [List.getElem?_map] at hd
    obtain ⟨p, hp, rfl⟩ := Option.map_eq_some_iff.mp hd
    rw [List.getElem?_map, hp] at he
    obtain rfl := Option.some.inj he
    have hm := List.mem_of_getElem? hp
    refine tw_name (by simp) ?_
    walk_at "st"
    refine ⟨rfl, ?_⟩
    refine ev_tup (ea_cons (ev_var rfl (ea_cons (ev_call (ea_cons (ev_dget ?_))))))
    walk_at "st"
    refine ⟨frmC l, Sum.inr (sg p.1), p.2.trC, .inl rfl, rfl, by rw [getG_tab, srtR_look hm]; rfl, ?_⟩
    refine ea_nil ?_
    refine hand0 ⟨p.2, rfl, rfl, hl.ht (srtR_mem hm), hl.okF (srtR_mem hm), ?_⟩
    try simp only [List.nil_append]
    try walk_at "st"
    exact ⟨rfl, rfl⟩
  refine ea_nil (ca_tup (.inl (.inl rfl)) ?_)
  exact k
abbrev s_law_begun : Stmt := top 55
theorem sc_law_begun : FnScope ["_law_deck_here", "_law_marks", "_law_mark", "_law_forms"] ["_law_deck_here"] (defScope s_law_begun) := ⟨rfl, rfl, rfl, by decide +kernel, rfl, by decide +kernel, by decide +kernel⟩
theorem c_law_begun {P : Program} {w : World} {K : PySem.W.Frag} {mg : Str → Option Value} {base : Heap} {cl : Nat → Addr} {f : Addr} {fd : FuncData} (hm : mg "_law_begun" = some (.ref f)) (B : Blt mg) (Z : ZZ K w mg cl) (Fn : Fun K "_law_begun" "_law_begun" s_law_begun f fd)
    (c_law_pick : Cal P w K mg base 2 "_law_pick" (spN FK ⟨K, cl⟩ (S_pick DkC)) [])
    (c_law_form : Cal P w K mg base 7 "_law_form" (spN FK ⟨K, cl⟩ S_formC) [])
    (c_law_rows : Cal P w K mg base 26 "_law_rows" (spN FK ⟨K, cl⟩ S_rowsC) [])
    (m_Rules : Mak P w K mg base 7 "Rules" (cl 3) (spN FK ⟨K, cl⟩ S_initRu) [])
    (m_Desk : Mak P w K mg base 1 "Desk" (cl 4) (spN FK ⟨K, cl⟩ S_initDe) []) : Cal P w K mg base 27 "_law_begun" (spN FK ⟨K, cl⟩ S_begunC) [] := by
  have fz := Z.z0
  refine calD hm Fn sc_law_begun (by intro ds W post h; first | (obtain ⟨rfl, _⟩ := h; rfl) | (obtain ⟨_, rfl, _⟩ := h; rfl) | (obtain ⟨_, _, rfl, _⟩ := h; rfl) | (obtain ⟨_, _, _, rfl, _⟩ := h; rfl) | (obtain ⟨_, _, _, _, rfl, _⟩ := h; rfl) | (obtain ⟨_, _, _, _, _, rfl, _⟩ := h; rfl) | (obtain ⟨_, _, _, _, _, _, rfl, _⟩ := h; rfl) | (obtain ⟨_, _, _, _, _, _, _, rfl, _⟩ := h; rfl) | (obtain ⟨_, _, _, _, _, _, _, _, rfl, _⟩ := h; rfl) | (obtain ⟨_, _, _, _, _, _, _, _, _, rfl, _⟩ := h; rfl) | (obtain ⟨_, _, _, _, _, _, _, _, _, _, rfl, _⟩ := h; rfl) | (obtain ⟨_, _, _, _, _, _, _, _, _, _, _, rfl, _⟩ := h; rfl)) (fun _ _ _ _ _ _ us hl => match us, hl with | [_], _ => rfl) fun cdv A outer s H E hr => ⟨_, pss_cons (ps_set (i := 1) sc_law_begun.nd rfl (Or.inr rfl) (pe_slice sl_str pe_str po_none (po_some (pe_c c_law_pick hr (by omega) (by rfl) (pa_cons (pv 0) (pa_cons (pe_lst (pa_cons pe_int (pa_cons pe_int (pa_cons pe_int (pa_cons pe_int (pa_cons pe_int pa_nil)))))) pa_nil))))))
 (pss_cons (ps_set (i := 3) sc_law_begun.nd rfl (Or.inl rfl) (pe_callTy (cr_dictP rfl) (by rfl) B.dict bt_dict (pa_cons (pe_lc (own := [("_law_mark", 2)]) (by rfl) sc_law_begun.nd (pi_str (pv 1)) (blkOk_by (own := [("_law_mark", 2)]) (N := ["_law_deck_here", "_law_marks", "_law_mark", "_law_forms"]) (sc := defScope s_law_begun) (by decide +kernel)) (fun _ _ _ _ _ => (pg_name (i := 2) sc_law_begun.nd rfl (Or.inl rfl))) (fun _ _ _ _ _ => pts_nil) (fun _ _ _ _ _ => (pe_tup (pa_cons (pv 2) (pa_cons (pe_c c_law_form hr (by omega) (by rfl) (pa_cons (pv 0) (pa_cons (pv 1) pa_nil))) pa_nil))))) pa_nil)))
 (pss_one (ps_ret (pe_tup (pa_cons (pe_mk m_Desk hr (by omega) (by rfl) (pa_cons (pe_mk m_Rules hr (by omega) (by rfl) (pa_cons (pe_c c_law_rows hr (by omega) (by rfl) (pa_cons (pv 3) pa_nil)) pa_nil)) pa_nil)) (pa_cons (pv 3) pa_nil)))))), ?_⟩
  rintro ds W post ⟨a, c, rfl, hd, hc, k⟩
  try dsimp only [cxOf, Cx.nox, Cx.wish]
  have h16 := sizeLine_eq
  walk_at "st"
  refine handA ⟨a, c, _, rfl, hd, by omega, .inl ⟨_, .inl rfl, by simp, by simp, fun z hz W1 hd1 => ?_⟩⟩
  try walk_at "st"
  have hz : ∃ n : Nat, z = .int n ∧ 1 ≤ n ∧ n ≤ 4 := by
    simp only [List.mem_cons, List.not_mem_nil, or_false] at hz
    rcases hz with rfl | rfl | rfl | rfl | rfl
    · exact ⟨1, rfl, by omega, by omega⟩
    · exact ⟨2, rfl, by omega, by omega⟩
    · exact ⟨2, rfl, by omega, by omega⟩
    · exact ⟨3, rfl, by omega, by omega⟩
    · exact ⟨4, rfl, by omega, by omega⟩
  obtain ⟨n, rfl, hn1, hn4⟩ := hz
  have hn : n ∈ [1, 2, 3, 4] := by simp only [List.mem_cons, List.not_mem_nil, or_false]; omega
  walk_at "st"
  refine ca_slS (by show 4 ≤ _; omega) ?_
  have hcut := cut_marks n hn
  have hlet : letters (cutS "PQRS" none (some (n : Int))) := fun c hc => by
    rw [show lets (cutS "PQRS" none (some (n : Int))) = _ from hcut] at hc
    exact (by decide +kernel : ∀ c ∈ lets ("PQRS" : Str), (65 ≤ c ∧ c ≤ 90) ∨ (97 ≤ c ∧ c ≤ 122)) c (List.mem_of_mem_take hc)
  have hsl : (cutS "PQRS" none (some (n : Int))).length ≤ 4 := by
    rw [str_len, show (cutS "PQRS" none (some (n : Int))).cps.toList = _ from hcut, List.length_take]
    have : (lets ("PQRS" : Str)).length = 4 := by decide +kernel
    omega
  generalize hms : cutS "PQRS" none (some (n : Int)) = ms at *
  walk_at "st"
  refine ev_lcF (ei_str ?_)
  walk_at "st"
  refine ⟨fun t acc W' => ∃ l : Rl, acc = l.map (fun x => .tup [.str (sg x.1), x.2.trC]) ∧ l.map (·.1) = (lets ms).take t ∧ (∀ x ∈ l, x.2.okL ∧ x.2.many ≤ 10 ∧ ∀ c ∈ lets x.2.outer, 97 ≤ c) ∧ DkC a (c + 1 + 20 * (t : Nat)) W', ⟨[], rfl, by simp, fun x hx => (by cases hx), DkC_mono hd1 (by omega)⟩, ?_, ?_⟩
  · rintro t d acc W4 hd2 ⟨l, rfl, hk, hf, hdk2⟩
    rw [List.getElem?_map] at hd2
    obtain ⟨u, hu, rfl⟩ := Option.map_eq_some_iff.mp hd2
    have hu : (lets ms)[t]? = some u := hu
    have htl := (List.getElem?_eq_some_iff.mp hu).1
    rw [← str_len] at htl
    have hll : l.length ≤ t := by
      have := congrArg List.length hk
      rw [List.length_map, List.length_take] at this
      omega
    refine tw_name (by simp) ?_
    walk_at "st"
    refine handA ⟨a, _, ms, rfl, hdk2, hlet, by omega, by omega, fun f W6 f1 f2 f3 hd6 => ?_⟩
    try walk_at "st"
    refine ⟨by rw [List.length_map]; omega, l ++ [(u, f)], by simp [sg], ?_, fun x hx => ?_, DkC_mono hd6 (by push_cast; omega)⟩
    · rw [List.map_append, hk, List.take_add_one, hu]
      rfl
    · rcases List.mem_append.mp hx with h | h
      · exact hf x h
      · rw [List.mem_singleton] at h
        subst h
        exact ⟨f1, f2, f3⟩
  rintro acc W4 ⟨l, rfl, hk, hf, hdk2⟩
  rw [List.length_map] at hk hdk2
  have hk : l.map (·.1) = (lets ms).take (lets ms).length := hk
  have hdk2 : DkC a (c + 1 + 20 * ((lets ms).length : Nat)) W4 := hdk2
  rw [List.take_length, hcut] at hk
  have hok := begun_ok hn hk hf
  have hll : (lets ms).length ≤ 4 := by rw [← str_len]; exact hsl
  refine ea_nil (ca_dictPF (ps := frmC l) (.inl (.inl (congrArg D.lst (by unfold frmC tabL; rw [List.map_map]; rfl)))) ?_)
  rw [mergeG_nd (tabL_nd hok.nd)]
  walk_at "st"
  refine ev_make (ea_cons (ev_mkRu (ea_cons (ev_call (ea_cons (ev_var rfl ?_))))))
  refine ea_nil ?_
  refine hand0 ⟨l, rfl, rfl, hok.toFrsW, ?_⟩
  refine ea_nil ⟨_, argR_rows _, ?_, ?_, ?_⟩
  · intro e he
    obtain ⟨p, hp, rfl⟩ := List.mem_map.mp he
    exact .inl rfl
  · rw [rsOf_rows]
    exact hok.rl
  rw [rsOf_rows]
  refine ea_nil fun x hx => ?_
  refine ⟨[(x, .ins 4 [] [])], W4, List.Perm.refl _, x, srtR l, rfl, rfl, rfl, ?_⟩
  refine ea_cons (ev_var rfl ?_)
  refine ea_nil ⟨by show 2 ≤ _; omega, ?_⟩
  exact k x l W4 hok (DkC_mono hdk2 (by omega))
abbrev s_law_is_shown : Stmt := top 56
theorem sc_law_is_shown : FnScope ["_law_desk", "_law_forms", "_law_mark"] ["_law_desk", "_law_forms"] (defScope s_law_is_shown) := ⟨rfl, rfl, rfl, by decide +kernel, rfl, by decide +kernel, by decide +kernel⟩
theorem c_law_is_shown {P : Program} {w : World} {K : PySem.W.Frag} {mg : Str → Option Value} {base : Heap} {cl : Nat → Addr} {f : Addr} {fd : FuncData} (hm : mg "_law_is_shown" = some (.ref f)) (B : Blt mg) (Z : ZZ K w mg cl) (Fn : Fun K "_law_is_shown" "_law_is_shown" s_law_is_shown f fd)
    (c_law_rows : Cal P w K mg base 26 "_law_rows" (spN FK ⟨K, cl⟩ S_rowsC) [])
    (c_law_formula : Cal P w K mg base 25 "_law_formula" (spN FK ⟨K, cl⟩ (S_builtC 20)) [])
    (p_rules4 : Prp P w K mg base 1 (cl 4) "rules" (spN FK ⟨K, cl⟩ S_rulesDe))
    (o_len4 : Opn P w K mg base 4 (cl 4) "__len__" (spN FK ⟨K, cl⟩ S_lenDe))
    (o_getitem4 : Opi P w K mg base 6 (cl 4) "__getitem__" (spN FK ⟨K, cl⟩ S_getDe))
    (p_marks3 : Prp P w K mg base 1 (cl 3) "marks" (spN FK ⟨K, cl⟩ S_marksRu))
    (o_eq : Opn P w K mg base 1 (cl 0) "__eq__" (spN FK ⟨K, cl⟩ S_eqF)) : Cal P w K mg base 27 "_law_is_shown" (spN FK ⟨K, cl⟩ S_isshown) [] := by
  have fz := Z.z0
  refine calD hm Fn sc_law_is_shown (by intro ds W post h; first | (obtain ⟨rfl, _⟩ := h; rfl) | (obtain ⟨_, rfl, _⟩ := h; rfl) | (obtain ⟨_, _, rfl, _⟩ := h; rfl) | (obtain ⟨_, _, _, rfl, _⟩ := h; rfl) | (obtain ⟨_, _, _, _, rfl, _⟩ := h; rfl) | (obtain ⟨_, _, _, _, _, rfl, _⟩ := h; rfl) | (obtain ⟨_, _, _, _, _, _, rfl, _⟩ := h; rfl) | (obtain ⟨_, _, _, _, _, _, _, rfl, _⟩ := h; rfl) | (obtain ⟨_, _, _, _, _, _, _, _, rfl, _⟩ := h; rfl) | (obtain ⟨_, _, _, _, _, _, _, _, _, rfl, _⟩ := h; rfl) | (obtain ⟨_, _, _, _, _, _, _, _, _, _, rfl, _⟩ := h; rfl) | (obtain ⟨_, _, _, _, _, _, _, _, _, _, _, rfl, _⟩ := h; rfl)) (fun _ _ _ _ _ _ us hl => match us, hl with | [_, _], _ => rfl) fun cdv A outer s H E hr => ⟨_, pss_cons (ps_if (PW.pt (pw_or (pt_cmpR (op_neAT (T := ⟨K, cl⟩) 1 o_eq hr (by omega)) (pe_fld (pe_prp p_rules4 Z.z4.cls hr (by omega) (pv 0)) rfl) (pe_c c_law_rows hr (by omega) (by rfl) (pa_cons (pv 1) pa_nil)) (nomark _)) (pw_or1 (pt_cmpR op_ne (pe_callB (call_len_opn o_len4 hr (by omega)) (by rfl) B.len bt_len (pa_cons (pv 0) pa_nil)) (pe_callB cr_lenDk (by rfl) B.len bt_len (pa_cons (pv 1) pa_nil)) (nomark _))))) (pss_one (ps_ret pe_bl)) (pss_nil))
 (pss_cons (ps_if (pt_cmpR op_ne (pe_prp p_marks3 Z.z3.cls hr (by omega) (pe_prp p_rules4 Z.z4.cls hr (by omega) (pv 0))) (pe_join pe_str (pe_callB cr_sortedS (by rfl) B.sorted bt_sorted (pa_cons (pe_callTy (cr_listDk rfl) (by rfl) B.list bt_list (pa_cons (pv 1) pa_nil)) pa_nil))) (nomark _)) (pss_one (ps_ret pe_bl)) (pss_nil))
 (pss_one (ps_ret (pe_cmpR (op_eqE hr.units) (pe_lc (own := [("_law_mark", 2)]) (by rfl) sc_law_is_shown.nd (pi_list (pe_callTy (cr_listDk rfl) (by rfl) B.list bt_list (pa_cons (pv 1) pa_nil))) (blkOk_by (own := [("_law_mark", 2)]) (N := ["_law_desk", "_law_forms", "_law_mark"]) (sc := defScope s_law_is_shown) (by decide +kernel)) (fun _ _ _ _ _ => (pg_name (i := 2) sc_law_is_shown.nd rfl (Or.inl rfl))) (fun _ _ _ _ _ => pts_one (pt_cmpR (op_ne_opn o_eq Z.y0 hr (by omega)) (pe_ixOwn o_getitem4 hr (by omega) (pv 0) (pv 2)) (pe_c c_law_formula hr (by omega) (by rfl) (pa_cons (pe_dget (by exact hu_of hr) (pv 1) (pv 2) (fun _ _ => rfl)) pa_nil)) (nomark _))) (fun _ _ _ _ _ => (pv 2))) (pe_lst pa_nil) (nomark _))))), ?_⟩
  rintro ds W post ⟨p, l, as, ls, rfl, rfl, hl, k⟩
  try dsimp only [cxOf, Cx.nox, Cx.wish]
  have h16 := sizeLine_eq
  have hlen := hl.len
  have hrl := hl.rl
  have hi : Inst FK [(p, deO (srtR l) as ls)] (.adr p) 4 deNames [rlD (srtR l), tupR as, tupR ls] := inst_de List.mem_cons_self
  refine sw_seq (sw_if (et_or (et_test (ev_op (ev_flR Z.z3 (ev_prop (ev_var rfl ?_)))))))
  refine ⟨_, _, hi, ?_⟩
  refine handA ⟨p, srtR l, as, ls, rfl, rfl, hrl, ?_⟩
  refine ⟨srtR l, rfl, .inl ⟨rfl, ?_⟩⟩
  refine ev_call (ea_cons (ev_var rfl ?_))
  refine ea_nil ?_
  refine hand0 ⟨l, rfl, rfl, hl.toFrsW, ?_⟩
  refine bo_neAT (m := 1) (fun x hx => ?_) ?_
  · obtain ⟨q, hq, rfl⟩ := List.mem_map.mp hx
    refine .tup fun y hy => ?_
    simp only [List.mem_cons, List.not_mem_nil, or_false] at hy
    rcases hy with rfl | rfl
    · exact .vl rfl
    · exact .fm
  refine ⟨_, rfl, ?_⟩
  refine if_not rfl ?_
  refine et_test (ev_op (ev_cb (ea_cons (ev_var rfl ?_))))
  refine ea_nil (ca_lenO hi ?_)
  refine handA ⟨p, srtR l, as, ls, rfl, rfl, hrl, ⟨_, rfl, by omega, by have := srtR_len hl.nd; omega⟩, ?_⟩
  walk_at "st"
  refine ca_lenDk (ps := frmC l) (.inl rfl) ?_
  rw [show (frmC l).length = (srtR l).length from by rw [srtR_len hl.nd]; unfold frmC tabL; rw [List.length_map]]
  walk_at "st"
  refine if_not (by simp) ?_
  refine sw_next ?_
  refine sw_seq (sw_if (et_test (ev_op (ev_prop (ev_prop (ev_var rfl ?_))))))
  refine ⟨_, _, hi, ?_⟩
  refine handA ⟨p, srtR l, as, ls, rfl, rfl, hrl, ?_⟩
  refine ⟨_, _, inst_rl (srtR l), ?_⟩
  refine hand0 ⟨srtR l, rfl, rfl, hrl, ?_⟩
  refine ev_join ?_
  walk_at "st"
  refine ca_listDk (ps := frmC l) (.inl rfl) ?_
  refine ea_nil (ca_sortedSL (ns := l.map (·.1)) (.inl (.inl (congrArg D.lst (by unfold frmC tabL; rw [List.map_map, List.map_map]; rfl)))) hl.nd (by rw [List.length_map]; omega) ?_)
  refine ⟨((srtR l).map (·.1)).map sg, .inl (.inl (.inl (by rw [srtR_keys, List.map_map]; rfl))), ?_, ?_⟩
  · rw [sg_sumR, List.length_map]
    have := srtR_len hl.nd
    show _ + _ * 0 ≤ _
    omega
  rw [join_nil_sg]
  refine bo_neS ⟨_, rfl, ?_⟩
  refine if_not (by show (!decide (marksS (srtR l) = marksS (srtR l))) = false; simp) ?_
  refine sw_next ?_
  refine sw_ret (ev_op (ev_lcQ (ei_list ?_)))
  refine ev_cb (ea_cons (ev_var rfl ?_))
  refine ea_nil (ca_listDk (ps := frmC l) (.inl rfl) ?_)
  refine ⟨_, rfl, fun i acc => acc = [], rfl, ?_, ?_⟩
  · rintro i d acc hd rfl
    unfold frmC tabL at hd
    rw [List.map_map, List.getElem?_map] at hd
    obtain ⟨x, hx, rfl⟩ := Option.map_eq_some_iff.mp hd
    have hm := List.mem_of_getElem? hx
    refine tw_name (by simp) ?_
    refine et_test (ev_op (ev_op (ev_var rfl ?_)))
    refine ev_var rfl ?_
    refine bo_ownIx hi ?_
    refine handA ⟨p, srtR l, as, ls, x, rfl, rfl, hrl, mem_srtR hl.nd hm, ?_⟩
    refine ev_call (ea_cons (ev_dget ?_))
    walk_at "st"
    refine ⟨frmC l, Sum.inr (sg x.1), x.2.trC, .inl rfl, rfl, by rw [getG_tab, lookN_of (f := x.2) hl.nd hm]; rfl, ?_⟩
    refine ea_nil ?_
    refine hand0 ⟨x.2, rfl, rfl, hl.ht hm, hl.okF hm, ?_⟩
    refine bo_neO (.fm x.2) (.fm x.2) ?_
    refine hand0 ⟨x.2, x.2, rfl, rfl, _, rfl, ?_⟩
    refine ⟨_, rfl, ?_⟩
    exact if_not (by simp) ⟨rfl, rfl⟩
  · rintro acc rfl
    walk_at "st"
    refine bo_eqE (.inl (.inl rfl)) (.inl (.inl rfl)) ?_
    exact k
abbrev s_law_value : Stmt := top 57
theorem sc_law_value : FnScope ["_law_deck_here", "_law_marks", "_law_tree_here"] ["_law_deck_here", "_law_marks"] (defScope s_law_value) := ⟨rfl, rfl, rfl, by decide +kernel, rfl, by decide +kernel, by decide +kernel⟩
theorem c_law_value {P : Program} {w : World} {K : PySem.W.Frag} {mg : Str → Option Value} {base : Heap} {cl : Nat → Addr} {f : Addr} {fd : FuncData} (hm : mg "_law_value" = some (.ref f)) (B : Blt mg) (Z : ZZ K w mg cl) (Fn : Fun K "_law_value" "_law_value" s_law_value f fd)
    (c_law_draw : Cal P w K mg base 1 "_law_draw" (spN FK ⟨K, cl⟩ (S_draw DkC)) [])
    (c_law_pick : Cal P w K mg base 2 "_law_pick" (spN FK ⟨K, cl⟩ (S_pick DkC)) [])
    (c_law_form : Cal P w K mg base 7 "_law_form" (spN FK ⟨K, cl⟩ S_formC) [])
    (c_law_formula : Cal P w K mg base 25 "_law_formula" (spN FK ⟨K, cl⟩ (S_builtC 20)) []) : Cal P w K mg base 26 "_law_value" (spN FK ⟨K, cl⟩ S_valueC) [] := by
  have fz := Z.z0
  refine calD hm Fn sc_law_value (by intro ds W post h; first | (obtain ⟨rfl, _⟩ := h; rfl) | (obtain ⟨_, rfl, _⟩ := h; rfl) | (obtain ⟨_, _, rfl, _⟩ := h; rfl) | (obtain ⟨_, _, _, rfl, _⟩ := h; rfl) | (obtain ⟨_, _, _, _, rfl, _⟩ := h; rfl) | (obtain ⟨_, _, _, _, _, rfl, _⟩ := h; rfl) | (obtain ⟨_, _, _, _, _, _, rfl, _⟩ := h; rfl) | (obtain ⟨_, _, _, _, _, _, _, rfl, _⟩ := h; rfl) | (obtain ⟨_, _, _, _, _, _, _, _, rfl, _⟩ := h; rfl) | (obtain ⟨_, _, _, _, _, _, _, _, _, rfl, _⟩ := h; rfl) | (obtain ⟨_, _, _, _, _, _, _, _, _, _, rfl, _⟩ := h; rfl) | (obtain ⟨_, _, _, _, _, _, _, _, _, _, _, rfl, _⟩ := h; rfl)) (fun _ _ _ _ _ _ us hl => match us, hl with | [_, _], _ => rfl) fun cdv A outer s H E hr => ⟨_, pss_cons (ps_if (pt_cmpR op_eq (pe_c c_law_draw hr (by omega) (by rfl) (pa_cons (pv 0) (pa_cons pe_int pa_nil))) pe_int (nomark _)) (pss_one (ps_ret (pe_tup (pa_cons pe_non (pa_cons (pe_c c_law_pick hr (by omega) (by rfl) (pa_cons (pv 0) (pa_cons (pe_lst (pa_cons pe_non (pa_cons pe_int (pa_cons pe_str (pa_cons pe_str (pa_cons (pe_lst pa_nil) (pa_cons (pe_tup (pa_cons pe_str pa_nil)) (pa_cons pe_bl (pa_cons pe_dnewK (pa_cons pe_str pa_nil)))))))))) pa_nil))) pa_nil))))) (pss_nil))
 (pss_cons (ps_set (i := 2) sc_law_value.nd rfl (Or.inl rfl) (pe_c c_law_form hr (by omega) (by rfl) (pa_cons (pv 0) (pa_cons (pe_op op_add_str (pv 1) pe_str) pa_nil))))
 (pss_cons (ps_if (pt_cmpR op_eq (pe_c c_law_draw hr (by omega) (by rfl) (pa_cons (pv 0) (pa_cons pe_int pa_nil))) pe_int (nomark _)) (pss_one (ps_set (i := 2) sc_law_value.nd rfl (Or.inl rfl) (pe_tup (pa_cons pe_str (pa_cons (pv 2) (pa_cons (pe_tup (pa_cons pe_str (pa_cons (pe_c c_law_pick hr (by omega) (by rfl) (pa_cons (pv 0) (pa_cons pe_str pa_nil))) pa_nil))) pa_nil)))))) (pss_nil))
 (pss_one (ps_ret (pe_tup (pa_cons (pv 2) (pa_cons (pe_ifExp (pt_cmpR op_eq (pe_ix ix_tup (pv 2) pe_int (fun _ _ => rfl)) pe_str (nomark _)) (pe_ix ix_tup (pv 2) pe_int (fun _ _ => rfl)) (pe_c c_law_formula hr (by omega) (by rfl) (pa_cons (pv 2) pa_nil))) pa_nil))))))), ?_⟩
  rintro ds W post ⟨a, c, p, rfl, hd, hp, hl, hc, k1, k2⟩
  try dsimp only [cxOf, Cx.nox, Cx.wish]
  have h16 := sizeLine_eq
  walk_at "st"
  refine handA ⟨a, c, 7, rfl, hd, by omega, by omega, by omega, fun z W1 z0 z1 hd1 => ?_⟩
  try walk_at "st"
  refine if_dec (fun h => ?_) (fun h => ?_)
  · walk_at "st"
    refine ev_fz (ev_dnew fun p hp => ⟨p, _, _, _, rfl, List.Perm.refl _, .dct _ _, ?_⟩)
    walk_at "st"
    refine handA ⟨a, _, _, rfl, hd1, by omega, .inl ⟨odds49, .inl rfl, by simp [odds49], by simp [odds49], fun y hy W2 hd2 => ?_⟩⟩
    try walk_at "st"
    exact k1 y hy W2 (DkC_mono hd2 (by omega))
  walk_at "st"
  refine bo_addS (by have : ("PQ" : Str).length = 2 := rfl; omega) ?_
  walk_at "st"
  have hpl : letters (p ++ "PQ") := fun x hx => by
    have e : lets (p ++ "PQ") = lets p ++ lets ("PQ" : Str) := by show (p.cps ++ _).toList = _; simp [lets]
    rw [e] at hx
    rcases List.mem_append.mp hx with h | h
    · exact hp x h
    · exact (by decide +kernel : ∀ x ∈ lets ("PQ" : Str), (65 ≤ x ∧ x ≤ 90) ∨ (97 ≤ x ∧ x ≤ 122)) x h
  have hpn : (p ++ "PQ").length = p.length + 2 := by rw [str_app_len]; rfl
  refine handA ⟨a, _, p ++ "PQ", rfl, hd1, hpl, by omega, by omega, fun f W2 f1 f2 f3 hd2 => ?_⟩
  try walk_at "st"
  refine handA ⟨a, _, 6, rfl, hd2, by omega, by omega, by omega, fun y W3 y0 y1 hd3 => ?_⟩
  try walk_at "st"
  refine if_dec (fun h2 => ?_) (fun h2 => ?_)
  · walk_at "st"
    refine handA ⟨a, _, _, rfl, hd3, by omega, .inr ⟨"PQRSA", rfl, by decide, by decide, fun q hq W4 hd4 => ?_⟩⟩
    try walk_at "st"
    have hqL : (65 ≤ q ∧ q ≤ 90) ∨ (97 ≤ q ∧ q ≤ 122) := by have := key_cap hq; omega
    have hm : (Fm.imp f (.at q)).many ≤ 12 := by simp only [Fm.many]; omega
    have hh := Fm.ht_many (Fm.imp f (.at q))
    walk_at "st"
    refine hand0 ⟨.imp f (.at q), rfl, rfl, by omega, okF_many ⟨f1, hqL⟩ (by omega), ?_⟩
    try simp only [List.nil_append]
    try walk_at "st"
    exact k2 (.imp f (.at q)) _ W4 (.inl rfl) ⟨f1, hqL⟩ hm (DkC_mono hd4 (by omega))
  · refine sw_next ?_
    have hh := Fm.ht_many f
    have hok := okF_many f1 (Nat.le_trans f2 (by decide))
    cases f with
    | «at» q =>
      simp only [Fm.trC]
      walk_at "st"
      exact k2 (.at q) (.str (sg q)) W3 (.inr ⟨q, f1, rfl, rfl⟩) f1 (by omega) (DkC_mono hd3 (by omega))
    | no =>
      simp only [Fm.trC]
      walk_at "st"
      refine hand0 ⟨.no, rfl, rfl, by omega, hok, ?_⟩
      try simp only [List.nil_append]
      try walk_at "st"
      exact k2 .no _ W3 (.inl rfl) f1 (by omega) (DkC_mono hd3 (by omega))
    | imp g h =>
      simp only [Fm.trC]
      walk_at "st"
      refine hand0 ⟨.imp g h, rfl, rfl, by omega, hok, ?_⟩
      try simp only [List.nil_append]
      try walk_at "st"
      exact k2 (.imp g h) _ W3 (.inl rfl) f1 (by omega) (DkC_mono hd3 (by omega))
    | all g =>
      simp only [Fm.trC]
      walk_at "st"
      refine hand0 ⟨.all g, rfl, rfl, by omega, hok, ?_⟩
      try simp only [List.nil_append]
      try walk_at "st"
      exact k2 (.all g) _ W3 (.inl rfl) f1 (by omega) (DkC_mono hd3 (by omega))
end
section
abbrev s_law_is_kept : Stmt := top 58
theorem sc_law_is_kept : FnScope ["_law_desk", "_law_forms"] ["_law_desk", "_law_forms"] (defScope s_law_is_kept) := ⟨rfl, rfl, rfl, by decide +kernel, rfl, by decide +kernel, by decide +kernel⟩
theorem c_law_is_kept {P : Program} {w : World} {K : PySem.W.Frag} {mg : Str → Option Value} {base : Heap} {cl : Nat → Addr} {f : Addr} {fd : FuncData} (hm : mg "_law_is_kept" = some (.ref f)) (B : Blt mg) (Z : ZZ K w mg cl) (Fn : Fun K "_law_is_kept" "_law_is_kept" s_law_is_kept f fd)
    (c_law_rows : Cal P w K mg base 26 "_law_rows" (spN FK ⟨K, cl⟩ S_rowsC) [])
    (p_rules4 : Prp P w K mg base 1 (cl 4) "rules" (spN FK ⟨K, cl⟩ S_rulesDe))
    (o_eq : Opn P w K mg base 1 (cl 0) "__eq__" (spN FK ⟨K, cl⟩ S_eqF)) : Cal P w K mg base 27 "_law_is_kept" (spN FK ⟨K, cl⟩ S_isshown) [] := by
  have fz := Z.z0
  refine calD hm Fn sc_law_is_kept (by intro ds W post h; first | (obtain ⟨rfl, _⟩ := h; rfl) | (obtain ⟨_, rfl, _⟩ := h; rfl) | (obtain ⟨_, _, rfl, _⟩ := h; rfl) | (obtain ⟨_, _, _, rfl, _⟩ := h; rfl) | (obtain ⟨_, _, _, _, rfl, _⟩ := h; rfl) | (obtain ⟨_, _, _, _, _, rfl, _⟩ := h; rfl) | (obtain ⟨_, _, _, _, _, _, rfl, _⟩ := h; rfl) | (obtain ⟨_, _, _, _, _, _, _, rfl, _⟩ := h; rfl) | (obtain ⟨_, _, _, _, _, _, _, _, rfl, _⟩ := h; rfl) | (obtain ⟨_, _, _, _, _, _, _, _, _, rfl, _⟩ := h; rfl) | (obtain ⟨_, _, _, _, _, _, _, _, _, _, rfl, _⟩ := h; rfl) | (obtain ⟨_, _, _, _, _, _, _, _, _, _, _, rfl, _⟩ := h; rfl)) (fun _ _ _ _ _ _ us hl => match us, hl with | [_, _], _ => rfl) fun cdv A outer s H E hr => ⟨_, pss_one (ps_ret (pe_cmpR (op_eqAT (T := ⟨K, cl⟩) 1 o_eq hr (by omega)) (pe_fld (pe_prp p_rules4 Z.z4.cls hr (by omega) (pv 0)) rfl) (pe_c c_law_rows hr (by omega) (by rfl) (pa_cons (pv 1) pa_nil)) (nomark _))), ?_⟩
  rintro ds W post ⟨p, l, as, ls, rfl, rfl, hl, k⟩
  try dsimp only [cxOf, Cx.nox, Cx.wish]
  have hrl := hl.rl
  refine sw_ret (ev_op (ev_flR Z.z3 (ev_prop (ev_var rfl ?_))))
  refine ⟨_, _, inst_de List.mem_cons_self, ?_⟩
  refine handA ⟨p, srtR l, as, ls, rfl, rfl, hrl, ?_⟩
  refine ⟨srtR l, rfl, .inl ⟨rfl, ?_⟩⟩
  refine ev_call (ea_cons (ev_var rfl ?_))
  refine ea_nil ?_
  refine hand0 ⟨l, rfl, rfl, hl.toFrsW, ?_⟩
  try simp only [List.nil_append]
  refine bo_eqAT (m := 1) (fun x hx => ?_) ?_
  · obtain ⟨q, hq, rfl⟩ := List.mem_map.mp hx
    refine .tup fun y hy => ?_
    simp only [List.mem_cons, List.not_mem_nil, or_false] at hy
    rcases hy with rfl | rfl
    · exact .vl rfl
    · exact .fm
  exact k
abbrev s_law_back : Stmt := top 59
theorem sc_law_back : FnScope ["_law_desk", "_law_is_again", "_law_found", "e"] ["_law_desk", "_law_is_again"] (defScope s_law_back) := ⟨rfl, rfl, rfl, by decide +kernel, rfl, by decide +kernel, by decide +kernel⟩
theorem c_law_back {P : Program} {w : World} {K : PySem.W.Frag} {mg : Str → Option Value} {base : Heap} {cl : Nat → Addr} {f : Addr} {fd : FuncData} (hm : mg "_law_back" = some (.ref f)) (B : Blt mg) (Z : ZZ K w mg cl) (Fn : Fun K "_law_back" "_law_back" s_law_back f fd)
    (mw_undo4 : MetX P w K mg base 1 (cl 4) "undo" [] (fun vs zs => vs ++ zs) (spX FK ⟨K, cl⟩ (S_undoDe)))
    (mw_redo4 : MetX P w K mg base 1 (cl 4) "redo" [] (fun vs zs => vs ++ zs) (spX FK ⟨K, cl⟩ (S_redoDe))) : Cal P w K mg base 4 "_law_back" (spN FK ⟨K, cl⟩ S_backC) [] := by
  have fz := Z.z0
  refine calD hm Fn sc_law_back (by intro ds W post h; first | (obtain ⟨rfl, _⟩ := h; rfl) | (obtain ⟨_, rfl, _⟩ := h; rfl) | (obtain ⟨_, _, rfl, _⟩ := h; rfl) | (obtain ⟨_, _, _, rfl, _⟩ := h; rfl) | (obtain ⟨_, _, _, _, rfl, _⟩ := h; rfl) | (obtain ⟨_, _, _, _, _, rfl, _⟩ := h; rfl) | (obtain ⟨_, _, _, _, _, _, rfl, _⟩ := h; rfl) | (obtain ⟨_, _, _, _, _, _, _, rfl, _⟩ := h; rfl) | (obtain ⟨_, _, _, _, _, _, _, _, rfl, _⟩ := h; rfl) | (obtain ⟨_, _, _, _, _, _, _, _, _, rfl, _⟩ := h; rfl) | (obtain ⟨_, _, _, _, _, _, _, _, _, _, rfl, _⟩ := h; rfl) | (obtain ⟨_, _, _, _, _, _, _, _, _, _, _, rfl, _⟩ := h; rfl)) (fun _ _ _ _ _ _ us hl => match us, hl with | [_, _], _ => rfl) fun cdv A outer s H E hr => ⟨_, pss_cons (ps_set (i := 2) sc_law_back.nd rfl (Or.inl rfl) pe_bl)
 (pss_cons (ps_try_all rfl rfl sc_law_back.nd takes0 (fun W pn xe tk po => pss_one (ps_if (pt_val (pv 1)) (pss_one (ps_expr (pe_mt0X mw_redo4 hr (by omega) tk (pv 0)))) (pss_one (ps_expr (pe_mt0X mw_undo4 hr (by omega) tk (pv 0)))))) (HdA.cons (i := 3) rfl rfl ⟨rfl, by decide, .inl Z.g_NothingToUndo⟩ (fun a oe cls d pn hz hf => pss_one (ps_set (i := 2) sc_law_back.nd rfl (Or.inl rfl) (pe_ifExp (PW.pt (pw_or (pt_val (pv 1)) (pw_or1 (pt_not (pt_val (pe_callB (call_isX hz hf) (by rfl) B.isinstance bt_isinstance (pa_cons (pv 3) (pa_cons (pe_glob (by rfl) Z.g_WebError (relV_ref _)) pa_nil)))))))) pe_non pe_bl))) (HdA.cons (i := 3) rfl rfl ⟨rfl, by decide, .inl Z.g_NothingToRedo⟩ (fun a oe cls d pn hz hf => pss_one (ps_set (i := 2) sc_law_back.nd rfl (Or.inl rfl) (pe_ifExp (PW.pt (pw_and (pt_val (pv 1)) (pw_and1 (pt_val (pe_callB (call_isX hz hf) (by rfl) B.isinstance bt_isinstance (pa_cons (pv 3) (pa_cons (pe_glob (by rfl) Z.g_WebError (relV_ref _)) pa_nil))))))) pe_bl pe_non))) HdA.nil)))
 (pss_one (ps_ret (pv 2)))), ?_⟩
  rintro ds W post ⟨p, r, as, ls, b, rfl, rfl, h1, h2, k1, k2⟩
  try dsimp only [cxOf, Cx.nox, Cx.wish]
  have h16 := sizeLine_eq
  have hi : Inst FK [(p, deO r as ls)] (.adr p) 4 deNames [rlD r, tupR as, tupR ls] := inst_de List.mem_cons_self
  walk_at "st"
  refine sw_ofX (W0 := fun _ _ _ _ => False) ?_
  generalize hwx : wCls K _ _ = wx
  revert wx
  refine (swx_try2 (T := ⟨K, cl⟩) (c1 := 100) (c2 := 101) (ex1 := fun c e G' W' => G' = [some (.adr p), some (.bl b), some (.bl true), none] ∧ W' = [(p, deO r as ls)] ∧ post (.bl false) [(p, deO r as ls)] ∧ ((c = 100 ∧ b = false) ∨ (c = 101 ∧ b = true))) (fun _ _ => rfl) (fun W1 => ?_) ?_)
  · dsimp only
    cases b with
    | false =>
      refine swx_if (et_B (ev_var rfl ⟨_, rfl, if_not rfl ?_⟩))
      refine swx_drop (evx_meth (ev_var rfl ?_))
      refine ⟨_, _, hi, by decide +kernel, ?_⟩
      refine ea_nil ?_
      refine handXA ⟨p, r, as, ls, rfl, rfl, h2, fun e => ⟨rfl, rfl, (k1 rfl).1 e, .inl ⟨rfl, rfl⟩⟩, fun bs q e => ?_⟩
      have z := (k1 rfl).2 bs q e
      show Sw _ _ (tRet (tVar 2)) _ _ _
      walk_at "st"
      exact z
    | true =>
      refine swx_if (et_B (ev_var rfl ⟨_, rfl, if_so rfl ?_⟩))
      refine swx_drop (evx_meth (ev_var rfl ?_))
      refine ⟨_, _, hi, by decide +kernel, ?_⟩
      refine ea_nil ?_
      refine handXA ⟨p, r, as, ls, rfl, rfl, h1, fun e => ⟨rfl, rfl, (k2 rfl).1 e, .inr ⟨rfl, rfl⟩⟩, fun bs q e => ?_⟩
      have z := (k2 rfl).2 bs q e
      show Sw _ _ (tRet (tVar 2)) _ _ _
      walk_at "st"
      exact z
  · rintro c e G' W' ⟨rfl, rfl, hp, hc⟩
    rcases hc with ⟨rfl, rfl⟩ | ⟨rfl, rfl⟩
    · refine ⟨true, Z.v100_100, fun _ a => ?_, fun h => by cases h⟩
      refine sw_set (ev_if ?_)
      walk_at "st"
      refine ca_isX0 Z.ec100 Z.i100_40 ?_
      walk_at "st"
      exact hp
    · refine ⟨false, Z.v101_100, (fun h => by cases h), fun _ => ⟨true, Z.v101_101, fun _ a => ?_, fun h => by cases h⟩⟩
      refine sw_set (ev_if ?_)
      walk_at "st"
      refine ca_isX0 Z.ec101 Z.i101_40 ?_
      walk_at "st"
      exact hp
abbrev s_law_turned : Stmt := top 61
theorem sc_law_turned : FnScope ["_law_row", "_law_later", "_law_is_again"] ["_law_row", "_law_later", "_law_is_again"] (defScope s_law_turned) := ⟨rfl, rfl, rfl, by decide +kernel, rfl, by decide +kernel, by decide +kernel⟩
theorem c_law_turned {P : Program} {w : World} {K : PySem.W.Frag} {mg : Str → Option Value} {base : Heap} {cl : Nat → Addr} {f : Addr} {fd : FuncData} (hm : mg "_law_turned" = some (.ref f)) (B : Blt mg) (Z : ZZ K w mg cl) (Fn : Fun K "_law_turned" "_law_turned" s_law_turned f fd) : Cal P w K mg base 1 "_law_turned" (spN FK ⟨K, cl⟩ S_turnedC) [] := by
  have fz := Z.z0
  refine calD hm Fn sc_law_turned (by intro ds W post h; first | (obtain ⟨rfl, _⟩ := h; rfl) | (obtain ⟨_, rfl, _⟩ := h; rfl) | (obtain ⟨_, _, rfl, _⟩ := h; rfl) | (obtain ⟨_, _, _, rfl, _⟩ := h; rfl) | (obtain ⟨_, _, _, _, rfl, _⟩ := h; rfl) | (obtain ⟨_, _, _, _, _, rfl, _⟩ := h; rfl) | (obtain ⟨_, _, _, _, _, _, rfl, _⟩ := h; rfl) | (obtain ⟨_, _, _, _, _, _, _, rfl, _⟩ := h; rfl) | (obtain ⟨_, _, _, _, _, _, _, _, rfl, _⟩ := h; rfl) | (obtain ⟨_, _, _, _, _, _, _, _, _, rfl, _⟩ := h; rfl) | (obtain ⟨_, _, _, _, _, _, _, _, _, _, rfl, _⟩ := h; rfl) | (obtain ⟨_, _, _, _, _, _, _, _, _, _, _, rfl, _⟩ := h; rfl)) (fun _ _ _ _ _ _ us hl => match us, hl with | [_, _, _], _ => rfl) fun cdv A outer s H E hr => ⟨_, pss_cons (ps_if (pt_val (pv 2)) (pss_one (ps_ret (pe_tup (pa_cons (pe_op op_cat (pv 0) (pe_slice sl_list (pv 1) (po_some (pe_un un_neg pe_int)) po_none)) (pa_cons (pe_slice sl_list (pv 1) po_none (po_some (pe_un un_neg pe_int))) pa_nil))))) (pss_nil))
 (pss_one (ps_ret (pe_ifExp (pt_cmpR op_gt (pe_callB call_len (by rfl) B.len bt_len (pa_cons (pv 0) pa_nil)) pe_int (nomark _)) (pe_tup (pa_cons (pe_slice sl_list (pv 0) po_none (po_some (pe_un un_neg pe_int))) (pa_cons (pe_op op_cat (pv 1) (pe_slice sl_list (pv 0) (po_some (pe_un un_neg pe_int)) po_none)) pa_nil))) (pe_tup (pa_cons (pv 0) (pa_cons (pv 1) pa_nil)))))), ?_⟩
  rintro ds W post ⟨A, B, x, b, rfl, rfl, hl, k1, k2⟩
  try dsimp only [cxOf, Cx.nox, Cx.wish]
  have h16 := sizeLine_eq
  cases b with
  | true =>
    walk_at "st"
    rcases List.eq_nil_or_concat B with rfl | ⟨C, z, e⟩
    · rw [cutD_nil1]
      refine bo_cat (.inl rfl) (.inl rfl) (by simp only [List.length_append, List.length_cons, List.length_nil]; omega) ?_
      walk_at "st"
      rw [cutD_nil2, List.append_nil]
      exact (k1 rfl).1 rfl
    · rw [List.concat_eq_append] at e
      subst e
      rw [cutD_last]
      refine bo_cat (.inl rfl) (.inl rfl) (by simp only [List.length_append, List.length_cons, List.length_nil] at *; omega) ?_
      walk_at "st"
      rw [cutD_snoc]
      exact (k1 rfl).2 C z rfl
  | false =>
    walk_at "st"
    rw [List.length_append]
    cases A with
    | nil =>
      refine if_not (by simp) ?_
      walk_at "st"
      exact (k2 rfl).1 rfl
    | cons y A =>
      refine if_so (decide_eq_true (by simp only [List.length_cons, List.length_nil]; omega)) ?_
      walk_at "st"
      rw [cutD_snoc, cutD_last]
      refine bo_cat (.inl rfl) (.inl rfl) (by simp only [List.length_append, List.length_cons, List.length_nil] at *; omega) ?_
      walk_at "st"
      exact (k2 rfl).2 (by simp)
end
section
abbrev s_law_changed : Stmt := top 60
theorem sc_law_changed : FnScope ["_law_deck_here", "_law_desk", "_law_forms", "_law_mark", "_law_found", "_law_tree_here", "_law_value_here", "_law_way", "_law_sign"] ["_law_deck_here", "_law_desk", "_law_forms"] (defScope s_law_changed) := ⟨rfl, rfl, rfl, by decide +kernel, rfl, by decide +kernel, by decide +kernel⟩
theorem c_law_changed {P : Program} {w : World} {K : PySem.W.Frag} {mg : Str → Option Value} {base : Heap} {cl : Nat → Addr} {f : Addr} {fd : FuncData} (hm : mg "_law_changed" = some (.ref f)) (B : Blt mg) (Z : ZZ K w mg cl) (Fn : Fun K "_law_changed" "_law_changed" s_law_changed f fd)
    (c_law_draw : Cal P w K mg base 1 "_law_draw" (spN FK ⟨K, cl⟩ (S_draw DkC)) [])
    (c_law_pick : Cal P w K mg base 2 "_law_pick" (spN FK ⟨K, cl⟩ (S_pick DkC)) [])
    (c_law_value : Cal P w K mg base 26 "_law_value" (spN FK ⟨K, cl⟩ S_valueC) [])
    (c_law_formula : Cal P w K mg base 25 "_law_formula" (spN FK ⟨K, cl⟩ (S_builtC 20)) [])
    (ow_setitem4 : OwX P w K mg base 16 (cl 4) "__setitem__" (spX FK ⟨K, cl⟩ (S_layDe)))
    (mw_take_out4 : MetX P w K mg base 13 (cl 4) "take_out" ["mark"] (fun vs zs => vs ++ zs) (spX FK ⟨K, cl⟩ (S_takeDe))) : Cal P w K mg base 27 "_law_changed" (spN FK ⟨K, cl⟩ S_changedC) [] := by
  have fz := Z.z0
  refine calD hm Fn sc_law_changed (by intro ds W post h; first | (obtain ⟨rfl, _⟩ := h; rfl) | (obtain ⟨_, rfl, _⟩ := h; rfl) | (obtain ⟨_, _, rfl, _⟩ := h; rfl) | (obtain ⟨_, _, _, rfl, _⟩ := h; rfl) | (obtain ⟨_, _, _, _, rfl, _⟩ := h; rfl) | (obtain ⟨_, _, _, _, _, rfl, _⟩ := h; rfl) | (obtain ⟨_, _, _, _, _, _, rfl, _⟩ := h; rfl) | (obtain ⟨_, _, _, _, _, _, _, rfl, _⟩ := h; rfl) | (obtain ⟨_, _, _, _, _, _, _, _, rfl, _⟩ := h; rfl) | (obtain ⟨_, _, _, _, _, _, _, _, _, rfl, _⟩ := h; rfl) | (obtain ⟨_, _, _, _, _, _, _, _, _, _, rfl, _⟩ := h; rfl) | (obtain ⟨_, _, _, _, _, _, _, _, _, _, _, rfl, _⟩ := h; rfl)) (fun _ _ _ _ _ _ us hl => match us, hl with | [_, _, _], _ => rfl) fun cdv A outer s H E hr => ⟨_, pss_cons (ps_asg (pe_tup (pa_cons (pe_c c_law_pick hr (by omega) (by rfl) (pa_cons (pv 0) (pa_cons pe_str pa_nil))) (pa_cons pe_non pa_nil))) (pg_tup (n := 2) rfl (pgs_cons (pg_name (i := 3) sc_law_changed.nd rfl (Or.inr rfl)) (pgs_cons (pg_name (i := 4) sc_law_changed.nd rfl (Or.inl rfl)) pgs_nil))))
 (pss_cons (ps_asg (pe_c c_law_value hr (by omega) (by rfl) (pa_cons (pv 0) (pa_cons (pe_join pe_str (pe_callTy (cr_listDk rfl) (by rfl) B.list bt_list (pa_cons (pv 2) pa_nil))) pa_nil))) (pg_tup (n := 2) rfl (pgs_cons (pg_name (i := 5) sc_law_changed.nd rfl (Or.inl rfl)) (pgs_cons (pg_name (i := 6) sc_law_changed.nd rfl (Or.inl rfl)) pgs_nil))))
 (pss_cons (ps_set (i := 7) sc_law_changed.nd rfl (Or.inl rfl) (pe_c c_law_draw hr (by omega) (by rfl) (pa_cons (pv 0) (pa_cons pe_int pa_nil))))
 (pss_cons (ps_if (PW.pt (pw_and (pt_cmpR op_eq (pv 7) pe_int (nomark _)) (pw_and1 (pt_cmp (pc_din (by exact hu_of hr) (pv 3) (pv 2)))))) (pss_one (ps_par (i := 5) (j := 6) (by rfl) sc_law_changed.nd rfl rfl (by decide) rfl rfl (pa_cons (pe_dget (by exact hu_of hr) (pv 2) (pv 3) (fun _ _ => rfl)) (pa_cons (pe_c c_law_formula hr (by omega) (by rfl) (pa_cons (pe_dget (by exact hu_of hr) (pv 2) (pv 3) (fun _ _ => rfl)) pa_nil)) pa_nil)) (by rfl))) (pss_nil))
 (pss_cons (ps_try_manyF rfl rfl takes0 (fun W pn xe tk po => pss_one (ps_if (pt_cmpR op_eq (pv 7) pe_int (nomark _)) (pss_cons (ps_expr (pe_mtX mw_take_out4 hr (by omega) tk (pv 1) (pa_cons (pv 3) pa_nil)))
 (pss_one (ps_set (i := 4) sc_law_changed.nd rfl (Or.inl rfl) (pe_callTy (cr_dictPK (K := K) rfl rfl) (by rfl) B.dict bt_dict (pa_cons (pe_lc (own := [("_law_sign", 8)]) (by rfl) sc_law_changed.nd (pi_listK (K := K) rfl (pe_callTy (cr_listDk rfl) (by rfl) B.list bt_list (pa_cons (pv 2) pa_nil))) (blkOk_by (own := [("_law_sign", 8)]) (N := ["_law_deck_here", "_law_desk", "_law_forms", "_law_mark", "_law_found", "_law_tree_here", "_law_value_here", "_law_way", "_law_sign"]) (sc := defScope s_law_changed) (by decide +kernel)) (fun _ _ _ _ _ => (pg_name (i := 8) sc_law_changed.nd rfl (Or.inl rfl))) (fun _ _ _ _ _ => pts_one (pt_cmpR op_ne (pv 8) (pv 3) (nomark _))) (fun _ _ _ _ _ => (pe_tup (pa_cons (pv 8) (pa_cons (pe_dget (by exact hu_of hr) (pv 2) (pv 8) (fun _ _ => rfl)) pa_nil))))) pa_nil))))) (pss_cons (ps_setX ow_setitem4 hr (by omega) Z.nq4 tk (pv 1) (pv 3) (pv 6) rfl)
 (pss_one (ps_set (i := 4) sc_law_changed.nd rfl (Or.inl rfl) (pe_callTy (cr_dictPK (K := K) rfl rfl) (by rfl) B.dict bt_dict (pa_cons (pe_op op_cat (LiI.pe_listItems rfl (pv 2) (by rfl) B.list bt_list) (pe_lst (pa_cons (pe_tup (pa_cons (pv 3) (pa_cons (pv 5) pa_nil))) pa_nil))) pa_nil))))))) (HdsOk.cons ⟨rfl, by decide, .inl Z.g_BadRules⟩ (fun a oe cls d pn hz hf => pss_one (ps_set (i := 4) sc_law_changed.nd rfl (Or.inl rfl) pe_non)) (HdsOk.cons ⟨rfl, by decide, .inl Z.g_UnknownMark⟩ (fun a oe cls d pn hz hf => pss_one (ps_set (i := 4) sc_law_changed.nd rfl (Or.inl rfl) pe_non)) HdsOk.nil)))
 (pss_one (ps_ret (pv 4))))))), ?_⟩
  rintro ds W post ⟨a, c, p, l, as, ls, Wd, rfl, rfl, hd, hl, ha, hc, k1, k2⟩
  try dsimp only [cxOf, Cx.nox, Cx.wish]
  have h16 := sizeLine_eq
  have hlen := hl.len
  refine sw_seq (sw_asgA (ev_tup (ea_cons ?_)))
  walk_at "st"
  refine ⟨Wd, [_], List.perm_append_comm (l₁ := [_]), a, c, _, rfl, hd, by omega, .inr ⟨"PPQRSA", rfl, by decide, by decide, fun q hq W1 hd1 => ?_⟩⟩
  have hq : q ∈ lets ("PQRSA" : Str) := (by decide +kernel : ∀ c ∈ lets ("PPQRSA" : Str), c ∈ lets ("PQRSA" : Str)) q hq
  have hcap := key_cap hq
  refine ea_cons (ev_c (ea_nil ⟨by show 2 ≤ _; omega, ?_⟩))
  refine ta_tg (tg_tup rfl (tgs_cons (tg_name (tgs_cons (tg_name (tgs_nil ?_))))))
  refine sw_mid5 (fun G' W' => ∃ (t d : D) (W2 : Om), G' = [some (.adr a), some (.adr p), some (dctC l), some (.str (sg q)), some .non, some t, some d, none, none] ∧ W' = W2 ++ [(p, deO (srtR l) as ls)] ∧ GoodV t d ∧ DkC a (c + 60) W2) ?_ ?_
  · refine sw_asgA (ev_call (ea_cons (ev_var rfl (ea_cons (ev_join ?_)))))
    walk_at "st"
    refine ca_listDk (ps := frmC l) (.inl rfl) ?_
    refine ⟨(l.map (·.1)).map sg, .inl (.inl (.inl (by unfold frmC tabL; rw [List.map_map, List.map_map, List.map_map]; rfl))), ?_, ?_⟩
    · rw [sg_sumR, List.length_map]
      show _ + _ * 0 ≤ _
      omega
    rw [join_nil_sg]
    refine ea_nil ?_
    have hlm : letters ⟨(l.map (·.1)).toArray⟩ := fun x hx => by
      have hx : x ∈ l.map (·.1) := hx
      obtain ⟨q, hq, rfl⟩ := List.mem_map.mp hx
      have := key_cap (hl.key q hq)
      omega
    have hll : (⟨(l.map (·.1)).toArray⟩ : Str).length ≤ 100 := by
      rw [str_len]
      show (l.map (·.1)).length ≤ 100
      rw [List.length_map]
      omega
    refine ⟨W1, [_], List.Perm.refl _, a, _, _, rfl, hd1, hlm, hll, by omega, fun z hz W2 hd2 => ?_, fun f d W2 ho hf hm12 hd2 => ?_⟩
    · refine ta_tg (tg_tup rfl (tgs_cons (tg_name (tgs_cons (tg_name (tgs_nil ?_))))))
      exact ⟨_, _, W2, rfl, rfl, .inr ⟨rfl, hz⟩, DkC_mono hd2 (by omega)⟩
    · refine ta_tg (tg_tup rfl (tgs_cons (tg_name (tgs_cons (tg_name (tgs_nil ?_))))))
      exact ⟨_, _, W2, rfl, rfl, .inl ⟨f, rfl, ho, hf, hm12⟩, DkC_mono hd2 (by omega)⟩
  rintro G' W' ⟨t0, d0, W2, rfl, rfl, hg0, hd2⟩
  refine sw_seq (sw_set ?_)
  walk_at "st"
  refine ⟨W2, [_], List.Perm.refl _, a, _, 5, rfl, hd2, by omega, by omega, by omega, fun wy W3 w0 w1 hd3 => ?_⟩
  refine sw_mid5 (fun G' W' => ∃ (t d : D), G' = [some (.adr a), some (.adr p), some (dctC l), some (.str (sg q)), some .non, some t, some d, some (.int wy), none] ∧ W' = W3 ++ [(p, deO (srtR l) as ls)] ∧ GoodV t d) ?_ ?_
  · refine sw_if ?_
    walk_at "st"
    refine if_dec (fun h => ?_) (fun h => ?_)
    · refine et_B (ev_din (ev_var rfl (ev_var rfl ?_)))
      refine ⟨frmC l, Sum.inr (sg q), .inl rfl, rfl, ?_⟩
      rw [getG_tab]
      cases eq : lookN l q with
      | none =>
        refine ⟨_, rfl, ?_⟩
        refine if_not rfl ?_
        exact sw_next ⟨_, _, rfl, rfl, hg0⟩
      | some g =>
        have hm : (q, g) ∈ l := lookN_mem eq
        refine ⟨_, rfl, ?_⟩
        refine if_so rfl ?_
        refine sw_par (ea_cons (ev_dget (ev_var rfl (ev_var rfl ?_))))
        refine ⟨frmC l, Sum.inr (sg q), g.trC, .inl rfl, rfl, by rw [getG_tab, eq]; rfl, ?_⟩
        refine ea_cons (ev_call (ea_cons (ev_dget (ev_var rfl (ev_var rfl ?_)))))
        refine ⟨frmC l, Sum.inr (sg q), g.trC, .inl rfl, rfl, by rw [getG_tab, eq]; rfl, ?_⟩
        refine ea_nil ?_
        refine hand0 ⟨g, rfl, rfl, hl.ht hm, hl.okF hm, ?_⟩
        try simp only [List.nil_append]
        refine ea_nil ⟨_, _, rfl, ?_⟩
        exact ⟨_, _, rfl, rfl, .inl ⟨g, rfl, .inl rfl, hl.ok _ hm, hl.sm _ hm⟩⟩
    · try refine if_not rfl ?_
      exact sw_next ⟨_, _, rfl, rfl, hg0⟩
  rintro G' W' ⟨t, d, rfl, rfl, hg⟩
  have hi : Inst FK (W3 ++ [(p, deO (srtR l) as ls)]) (.adr p) 4 deNames [rlD (srtR l), tupR as, tupR ls] := inst_de (List.mem_append_right _ List.mem_cons_self)
  have txm : txtV (.str (sg q)) := .inl ⟨_, rfl, Nat.le_of_ble_eq_true rfl⟩
  have eP : List.Perm (W3 ++ [(p, deO (srtR l) as ls)]) ([(p, deO (srtR l) as ls)] ++ W3) := List.perm_append_comm
  have hfr : frmV d ∧ ∀ f, d = .fm f → f.okF := by
    rcases hg with ⟨f, rfl, ho, hf, hm12⟩ | ⟨rfl, hz⟩
    · refine ⟨(opd_frm ho).1, fun g e => ?_⟩
      subst e
      rw [opd_inj (.inl rfl) ho]
      exact okF_many hf (Nat.le_trans hm12 (by decide))
    · obtain ⟨z1, z2, z3⟩ := odds_ok d hz
      exact ⟨z1, fun f e => by rw [e] at z2; cases z2⟩
  refine sw_seq ?_
  refine sw_ofX (W0 := fun _ _ _ _ => False) ?_
  generalize hwx : wCly K _ _ = wx
  revert wx
  refine (swx_many2 (T := ⟨K, cl⟩) (c1 := 33) (c2 := 34) (ex1 := fun c e G' W' => G' = [some (.adr a), some (.adr p), some (dctC l), some (.str (sg q)), some .non, some t, some d, some (.int wy), none] ∧ (∃ Wr, W'.Perm (((p, deO (srtR l) as ls) :: W3) ++ Wr)) ∧ (c = 33 ∨ c = 34)) (fun _ _ => rfl) (fun W1 => ?_) ?_)
  · dsimp only
    refine swx_if ?_
    walk_at "st"
    refine if_dec (fun h => ?_) (fun h => ?_)
    · refine swx_seq (swx_drop (evx_meth (ev_var rfl ?_)))
      refine ⟨_, _, hi, by decide +kernel, ?_⟩
      refine ea_cons (ev_var rfl (ea_nil ?_))
      refine ⟨[_], W3, eP, p, srtR l, as, ls, .str (sg q), rfl, rfl, hl.rl, txm, by omega, fun c2 e hc2 => ⟨fun er => ?_, fun s er e2 x => ?_⟩, fun hb e2 => ?_⟩
      · obtain rfl : c2 = q := (sg_inj (V.str.inj (D.vl.inj e))).symm
        rw [drop_srt2 hl.nd] at er ⊢
        refine swx_set (evx_of (ev_cb (ea_cons (ev_lcP (ei_list ?_)))))
        refine ev_cb (ea_cons (ev_var rfl ?_))
        refine ea_nil (ca_listDk (ps := frmC l) (.inl rfl) ?_)
        refine ⟨_, rfl, l.map fun p => (decide (p.1 ≠ c2), D.tup [.str (sg p.1), p.2.trC]), fun i d e hd he => ?_, by unfold frmC tabL; simp, by rw [List.length_map]; omega, ?_⟩
        · unfold frmC tabL at hd
          rw [List.map_map, List.getElem?_map] at hd
          obtain ⟨y, hy, rfl⟩ := Option.map_eq_some_iff.mp hd
          rw [List.getElem?_map, hy] at he
          obtain rfl := Option.some.inj he
          have hym := List.mem_of_getElem? hy
          refine tw_name (by simp) ?_
          walk_at "st"
          refine bo_neS ?_
          refine ⟨_, rfl, ?_⟩
          have eb : (!decide (sg y.1 = sg c2)) = decide (y.1 ≠ c2) := by
            by_cases e : y.1 = c2
            · simp [e]
            · simp [e, sg_ne e]
          refine ⟨eb, ?_⟩
          by_cases e : y.1 = c2
          · exact if_not (by simp [e]) rfl
          · refine if_so (by simp [sg_ne e]) ?_
            walk_at "st"
            refine ⟨frmC l, Sum.inr (sg y.1), y.2.trC, .inl rfl, rfl, by rw [getG_tab, lookN_of (f := y.2) hl.nd hym]; rfl, ?_⟩
            walk_at "st"
            exact ⟨rfl, rfl⟩
        rw [drop_dct]
        refine ea_nil (ca_dictPF (ps := frmC (dropN l c2)) (.inl (.inl (congrArg D.lst (by unfold frmC tabL; rw [List.map_map]; rfl)))) ?_)
        rw [mergeG_nd (tabL_nd (hl.toFrsW.drop c2).nd)]
        show Sw _ _ (tRet (tVar 4)) _ _ _
        walk_at "st"
        exact k2 (dropN l c2) W3 { hl.toFrsW.drop c2 with err := er } (DkC_mono hd3 (by omega))
      · exact ⟨rfl, ⟨_, perm_b2 _ _ _ _⟩, .inl rfl⟩
      · exact ⟨rfl, ⟨_, perm_b1 _ _ _⟩, .inr rfl⟩
    · refine swx_seq (swx_setX (ev_var rfl ?_))
      refine ev_var rfl (ev_var rfl ?_)
      refine ⟨_, _, hi, ?_⟩
      refine ⟨[_], W3, eP, p, srtR l, as, ls, .str (sg q), d, rfl, rfl, hl.rl, txm, hfr.1, hfr.2, by omega, fun c2 f2 e h1 h2 ho2 => ?_, fun hb e2 => ?_⟩
      · obtain rfl : c2 = q := (sg_inj (V.str.inj (D.vl.inj e))).symm
        rcases hg with ⟨f, rfl, ho, hf, hm12⟩ | ⟨rfl, hz⟩
        · obtain rfl : f2 = f := opd_inj ho2 ho
          have hwp := hl.toFrsW.put hq hf hm12
          refine ⟨fun er => ?_, fun s er e2 x => ?_⟩
          · rw [put_srt hl.nd] at er ⊢
            refine swx_set (evx_of (ev_cb (ea_cons (ev_op (ev_listItems ?_)))))
            walk_at "st"
            refine ⟨frmC l, .inl rfl, ?_⟩
            walk_at "st"
            refine bo_cat (.inl rfl) (.inl rfl) (by unfold frmC tabL; simp only [List.length_map, List.length_cons, List.length_nil]; omega) ?_
            refine ea_nil (ca_dictPF (ps := frmC l ++ [((Sum.inr (sg c2) : Key), f2.trC)]) (.inl (.inl (congrArg D.lst (by rw [List.map_append]; rfl)))) ?_)
            rw [dct_put hl.nd]
            show Sw _ _ (tRet (tVar 4)) _ _ _
            walk_at "st"
            exact k2 (putN l c2 f2) W3 { hwp with err := er } (DkC_mono hd3 (by omega))
          · exact ⟨rfl, ⟨_, perm_b2 _ _ _ _⟩, .inl rfl⟩
        · exfalso
          have z2 := (odds_ok d hz).2.1
          rw [(opd_frm ho2).2] at z2
          cases z2
      · exact ⟨rfl, ⟨_, perm_b1 _ _ _⟩, .inl rfl⟩
  · rintro c e G' W' ⟨rfl, ⟨Wr, hp⟩, hc2⟩
    rcases hc2 with rfl | rfl
    · refine ⟨true, Z.v33_33, fun _ a => ?_, fun h => by cases h⟩
      refine sw_set (ev_c ?_)
      show Sw _ _ (tRet (tVar 4)) _ _ _
      refine sw_perm hp ?_
      refine sw_drp (W2 := (p, deO (srtR l) as ls) :: W3) (List.sublist_append_left _ _) ?_
      walk_at "st"
      exact k1 W3 (DkC_mono hd3 (by omega))
    · refine ⟨false, Z.v34_33, (fun h => by cases h), fun _ => ⟨true, Z.v34_34, fun _ a => ?_, fun h => by cases h⟩⟩
      refine sw_set (ev_c ?_)
      show Sw _ _ (tRet (tVar 4)) _ _ _
      refine sw_perm hp ?_
      refine sw_drp (W2 := (p, deO (srtR l) as ls) :: W3) (List.sublist_append_left _ _) ?_
      walk_at "st"
      exact k1 W3 (DkC_mono hd3 (by omega))
end
section
abbrev s_law_all_right : Stmt := top 63
theorem sc_law_all_right : FnScope ["_law_desk", "_law_row", "_law_later"] ["_law_desk", "_law_row", "_law_later"] (defScope s_law_all_right) := ⟨rfl, rfl, rfl, by decide +kernel, rfl, by decide +kernel, by decide +kernel⟩
theorem c_law_all_right {P : Program} {w : World} {K : PySem.W.Frag} {mg : Str → Option Value} {base : Heap} {cl : Nat → Addr} {f : Addr} {fd : FuncData} (hm : mg "_law_all_right" = some (.ref f)) (B : Blt mg) (Z : ZZ K w mg cl) (Fn : Fun K "_law_all_right" "_law_all_right" s_law_all_right f fd)
    (c_law_turned : Cal P w K mg base 1 "_law_turned" (spN FK ⟨K, cl⟩ S_turnedC) [])
    (c_law_back : Cal P w K mg base 4 "_law_back" (spN FK ⟨K, cl⟩ S_backC) [])
    (c_law_is_kept : Cal P w K mg base 27 "_law_is_kept" (spN FK ⟨K, cl⟩ S_isshown) [])
    (c_law_is_shown : Cal P w K mg base 27 "_law_is_shown" (spN FK ⟨K, cl⟩ S_isshown) []) : Cal P w K mg base 28 "_law_all_right" (spN FK ⟨K, cl⟩ S_allC) [] := by
  have fz := Z.z0
  refine calD hm Fn sc_law_all_right (by intro ds W post h; first | (obtain ⟨rfl, _⟩ := h; rfl) | (obtain ⟨_, rfl, _⟩ := h; rfl) | (obtain ⟨_, _, rfl, _⟩ := h; rfl) | (obtain ⟨_, _, _, rfl, _⟩ := h; rfl) | (obtain ⟨_, _, _, _, rfl, _⟩ := h; rfl) | (obtain ⟨_, _, _, _, _, rfl, _⟩ := h; rfl) | (obtain ⟨_, _, _, _, _, _, rfl, _⟩ := h; rfl) | (obtain ⟨_, _, _, _, _, _, _, rfl, _⟩ := h; rfl) | (obtain ⟨_, _, _, _, _, _, _, _, rfl, _⟩ := h; rfl) | (obtain ⟨_, _, _, _, _, _, _, _, _, rfl, _⟩ := h; rfl) | (obtain ⟨_, _, _, _, _, _, _, _, _, _, rfl, _⟩ := h; rfl) | (obtain ⟨_, _, _, _, _, _, _, _, _, _, _, rfl, _⟩ := h; rfl)) (fun _ _ _ _ _ _ us hl => match us, hl with | [_, _, _], _ => rfl) fun cdv A outer s H E hr => ⟨_, pss_cons (ps_while PassesOwn.never (pt_cmpR op_gt (pe_callB call_len (by rfl) B.len bt_len (pa_cons (pv 1) pa_nil)) pe_int (nomark _)) (pss_cons (ps_asg (pe_c c_law_turned hr (by omega) (by rfl) (pa_cons (pv 1) (pa_cons (pv 2) (pa_cons pe_bl pa_nil)))) (pg_tup (n := 2) rfl (pgs_cons (pg_name (i := 1) sc_law_all_right.nd rfl (Or.inl rfl)) (pgs_cons (pg_name (i := 2) sc_law_all_right.nd rfl (Or.inl rfl)) pgs_nil))))
 (pss_one (ps_if (PW.pt (pw_or (pt_cmpR op_notBl (pe_c c_law_back hr (by omega) (by rfl) (pa_cons (pv 0) (pa_cons pe_bl pa_nil))) pe_bl (nomark _)) (pw_or1 (pt_not (pt_val (pe_c c_law_is_kept hr (by omega) (by rfl) (pa_cons (pv 0) (pa_cons (pe_ix ix_list (pv 1) (pe_un un_neg pe_int) (fun _ _ => rfl)) pa_nil)))))))) (pss_one (ps_ret pe_bl)) (pss_nil)))))
 (pss_cons (ps_if (PW.pt (pw_or (pt_cmpR op_notBl (pe_c c_law_back hr (by omega) (by rfl) (pa_cons (pv 0) (pa_cons pe_bl pa_nil))) pe_bl (nomark _)) (pw_or1 (pt_not (pt_val (pe_c c_law_is_shown hr (by omega) (by rfl) (pa_cons (pv 0) (pa_cons (pe_ix ix_list (pv 1) (pe_un un_neg pe_int) (fun _ _ => rfl)) pa_nil)))))))) (pss_one (ps_ret pe_bl)) (pss_nil))
 (pss_cons (ps_while PassesOwn.never (pt_cmpR (op_neE hr.units) (pv 2) (pe_lst pa_nil) (nomark _)) (pss_cons (ps_asg (pe_c c_law_turned hr (by omega) (by rfl) (pa_cons (pv 1) (pa_cons (pv 2) (pa_cons pe_bl pa_nil)))) (pg_tup (n := 2) rfl (pgs_cons (pg_name (i := 1) sc_law_all_right.nd rfl (Or.inl rfl)) (pgs_cons (pg_name (i := 2) sc_law_all_right.nd rfl (Or.inl rfl)) pgs_nil))))
 (pss_one (ps_if (PW.pt (pw_or (pt_cmpR op_notBl (pe_c c_law_back hr (by omega) (by rfl) (pa_cons (pv 0) (pa_cons pe_bl pa_nil))) pe_bl (nomark _)) (pw_or1 (pt_not (pt_val (pe_c c_law_is_kept hr (by omega) (by rfl) (pa_cons (pv 0) (pa_cons (pe_ix ix_list (pv 1) (pe_un un_neg pe_int) (fun _ _ => rfl)) pa_nil)))))))) (pss_one (ps_ret pe_bl)) (pss_nil)))))
 (pss_one (ps_ret (pe_and (pe_cmpR op_isBl (pe_c c_law_back hr (by omega) (by rfl) (pa_cons (pv 0) (pa_cons pe_bl pa_nil))) pe_bl (nomark _)) (pe_one (pe_c c_law_is_shown hr (by omega) (by rfl) (pa_cons (pv 0) (pa_cons (pe_ix ix_list (pv 1) (pe_un un_neg pe_int) (fun _ _ => rfl)) pa_nil))))))))), ?_⟩
  rintro ds W post ⟨p, A, l, L, rfl, rfl, hs, hn, k⟩
  try dsimp only [cxOf, Cx.nox, Cx.wish]
  have h16 := sizeLine_eq
  refine sw_seq (sw_while (fun m G' W' => ∃ (A : List Rl) (l : Rl) (L : List Rl), Stk A l L ∧ A.length + L.length < 900 ∧ m = A.length ∧ G' = [some (.adr p), some (.lst (dctsC A ++ [dctC l])), some (.lst (dctsC L))] ∧ W' = [(p, deO (srtR l) (A.map srtR) (L.map srtR))]) _ ⟨A, l, L, hs, hn, rfl, rfl, rfl⟩ ?_)
  rintro m G' W' ⟨A, l, L, hs, hn, rfl, rfl, rfl⟩
  walk_at "st"
  rcases List.eq_nil_or_concat A with rfl | ⟨B, x, e⟩
  · refine if_not (decide_eq_false (by simp [dctsC])) ?_
    refine sw_seq (sw_if (et_or (et_test (ev_op (ev_call (ea_cons (ev_var rfl (ea_cons (ev_c (ea_nil ?_))))))))))
    refine handA ⟨p, srtR l, [], L.map srtR, false, rfl, rfl, by simp, by rw [List.length_map]; omega, fun _ => ⟨fun _ => ?_, fun bs q e => (no_snoc e).elim⟩, fun h => by cases h⟩
    refine ev_c (bo_notB ?_)
    refine ⟨_, rfl, ?_⟩
    refine if_not rfl ?_
    refine et_not (et_B (ev_call (ea_cons (ev_var rfl (ea_cons (ev_op (ev_var rfl ?_)))))))
    walk_at "st"
    refine handA ⟨p, l, [], _, rfl, rfl, hs.l, ?_⟩
    refine ⟨_, rfl, ?_⟩
    refine if_not rfl ?_
    refine sw_next ?_
    refine sw_seq (sw_while (fun m G' W' => ∃ (A : List Rl) (l : Rl) (L : List Rl), Stk A l L ∧ A.length + L.length < 900 ∧ m = L.length ∧ G' = [some (.adr p), some (.lst (dctsC A ++ [dctC l])), some (.lst (dctsC L))] ∧ W' = [(p, deO (srtR l) (A.map srtR) (L.map srtR))]) _ ⟨[], l, L, hs, hn, rfl, rfl, rfl⟩ ?_)
    rintro m G' W' ⟨A, l, L, hs, hn, rfl, rfl, rfl⟩
    refine et_test (ev_op (ev_var rfl ?_))
    walk_at "st"
    refine bo_neE (.inl (.inl rfl)) (.inl (.inl rfl)) ?_
    refine ⟨_, rfl, ?_⟩
    rcases List.eq_nil_or_concat L with rfl | ⟨B, x, e⟩
    · refine if_not rfl ?_
      refine sw_ret (ev_andV (ev_op (ev_call (ea_cons (ev_var rfl (ea_cons (ev_c (ea_nil ?_))))))))
      refine handA ⟨p, srtR l, A.map srtR, [], true, rfl, rfl, by rw [List.length_map]; omega, by simp, (fun h => by cases h), fun _ => ⟨fun _ => ?_, fun bs q e => (no_snoc e).elim⟩⟩
      refine ev_c (bo_isB ?_)
      refine ⟨_, rfl, ?_⟩
      refine if_so rfl ?_
      refine ev_call (ea_cons (ev_var rfl (ea_cons (ev_op (ev_var rfl ?_)))))
      walk_at "st"
      refine bo_ixL (.inl (.inl rfl)) (atI_snoc _ _) ?_
      refine ea_nil ?_
      refine handA ⟨p, l, _, [], rfl, rfl, hs.l, ?_⟩
      exact k _ _ _
    · rw [List.concat_eq_append] at e
      subst e
      have hx := hs.b x (by simp)
      rw [List.length_append] at hn
      simp only [List.length_cons, List.length_nil] at hn
      refine if_so (by simp [dctsC]) ?_
      refine sw_seq (sw_asgA (ev_call (ea_cons (ev_var rfl (ea_cons (ev_var rfl (ea_cons (ev_c (ea_nil ?_)))))))))
      refine hand0 ⟨dctsC A, dctsC (B ++ [x]), dctC l, true, rfl, rfl, by unfold dctsC; simp only [List.length_map, List.length_append, List.length_cons, List.length_nil]; omega, fun _ => ⟨fun e => by rw [dctsC_snoc] at e; exact (snoc_no e).elim, fun C z e => ?_⟩, (fun h => by cases h)⟩
      rw [dctsC_snoc] at e
      obtain ⟨rfl, rfl⟩ := snoc_inj5 e
      try simp only [List.nil_append]
      refine ta_tg (tg_tup rfl (tgs_cons (tg_name (tgs_cons (tg_name (tgs_nil ?_))))))
      refine sw_if (et_or (et_test (ev_op (ev_call (ea_cons (ev_var rfl (ea_cons (ev_c (ea_nil ?_)))))))))
      refine handA ⟨p, srtR l, A.map srtR, (B ++ [x]).map srtR, true, rfl, rfl, by rw [List.length_map]; omega, by simp only [List.length_map, List.length_append, List.length_cons, List.length_nil]; omega, (fun h => by cases h), fun _ => ⟨fun e => by rw [srs_snoc] at e; exact (snoc_no e).elim, fun bs q e => ?_⟩⟩
      rw [srs_snoc] at e
      obtain ⟨rfl, rfl⟩ := snoc_inj5 e
      refine ev_c (bo_notB ?_)
      refine ⟨_, rfl, ?_⟩
      refine if_not rfl ?_
      refine et_not (et_B (ev_call (ea_cons (ev_var rfl (ea_cons (ev_op (ev_var rfl ?_)))))))
      walk_at "st"
      refine bo_ixL (.inl (.inl rfl)) (atI_snoc _ _) ?_
      refine ea_nil ?_
      refine handA ⟨p, x, _, _, rfl, rfl, hx, ?_⟩
      refine ⟨_, rfl, ?_⟩
      refine if_not rfl ?_
      refine sw_next ?_
      refine ⟨B.length, by simp, A ++ [l], x, B, ⟨fun y hy => ?_, hx, fun y hy => hs.b y (List.mem_append_left _ hy)⟩, by simp only [List.length_append, List.length_cons, List.length_nil]; omega, rfl, by rw [dctsC_snoc A l]; rfl, by rw [srs_snoc A l]⟩
      rcases List.mem_append.mp hy with h | h
      · exact hs.a y h
      · rw [List.mem_singleton] at h
        subst h
        exact hs.l
  · rw [List.concat_eq_append] at e
    subst e
    have hx := hs.a x (by simp)
    rw [List.length_append] at hn
    simp only [List.length_cons, List.length_nil] at hn
    refine if_so (decide_eq_true (by unfold dctsC; simp only [List.length_map, List.length_append, List.length_cons, List.length_nil]; omega)) ?_
    refine sw_seq (sw_asgA (ev_call (ea_cons (ev_var rfl (ea_cons (ev_var rfl (ea_cons (ev_c (ea_nil ?_)))))))))
    refine hand0 ⟨dctsC (B ++ [x]), dctsC L, dctC l, false, rfl, rfl, by unfold dctsC; simp only [List.length_map, List.length_append, List.length_cons, List.length_nil]; omega, (fun h => by cases h), fun _ => ⟨fun e => by rw [dctsC_snoc] at e; exact (snoc_no e).elim, fun _ => ?_⟩⟩
    try simp only [List.nil_append]
    refine ta_tg (tg_tup rfl (tgs_cons (tg_name (tgs_cons (tg_name (tgs_nil ?_))))))
    refine sw_if (et_or (et_test (ev_op (ev_call (ea_cons (ev_var rfl (ea_cons (ev_c (ea_nil ?_)))))))))
    refine handA ⟨p, srtR l, (B ++ [x]).map srtR, L.map srtR, false, rfl, rfl, by simp only [List.length_map, List.length_append, List.length_cons, List.length_nil]; omega, by rw [List.length_map]; omega, fun _ => ⟨fun e => by rw [srs_snoc] at e; exact (snoc_no e).elim, fun bs q e => ?_⟩, (fun h => by cases h)⟩
    rw [srs_snoc] at e
    obtain ⟨rfl, rfl⟩ := snoc_inj5 e
    refine ev_c (bo_notB ?_)
    refine ⟨_, rfl, ?_⟩
    refine if_not rfl ?_
    refine et_not (et_B (ev_call (ea_cons (ev_var rfl (ea_cons (ev_op (ev_var rfl ?_)))))))
    walk_at "st"
    rw [dctsC_snoc]
    refine bo_ixL (.inl (.inl rfl)) (atI_snoc _ _) ?_
    refine ea_nil ?_
    refine handA ⟨p, x, _, _, rfl, rfl, hx, ?_⟩
    refine ⟨_, rfl, ?_⟩
    refine if_not rfl ?_
    refine sw_next ?_
    refine ⟨B.length, by simp, B, x, L ++ [l], ⟨fun y hy => hs.a y (List.mem_append_left _ hy), hx, fun y hy => ?_⟩, by simp only [List.length_append, List.length_cons, List.length_nil]; omega, rfl, by rw [dctsC_snoc L l]; rfl, by rw [srs_snoc L l]⟩
    rcases List.mem_append.mp hy with h | h
    · exact hs.b y h
    · rw [List.mem_singleton] at h
      subst h
      exact hs.l
end
section
abbrev s_law_right : Stmt := top 62
theorem sc_law_right : FnScope ["_law_deck_here", "_law_desk", "_law_forms", "_law_row", "_law_later", "_law_go", "_law_way", "_law_found", "_law_due"] ["_law_deck_here"] (defScope s_law_right) := ⟨rfl, rfl, rfl, by decide +kernel, rfl, by decide +kernel, by decide +kernel⟩
theorem c_law_right {P : Program} {w : World} {K : PySem.W.Frag} {mg : Str → Option Value} {base : Heap} {cl : Nat → Addr} {f : Addr} {fd : FuncData} (hm : mg "_law_right" = some (.ref f)) (B : Blt mg) (Z : ZZ K w mg cl) (Fn : Fun K "_law_right" "_law_right" s_law_right f fd)
    (c_law_draw : Cal P w K mg base 1 "_law_draw" (spN FK ⟨K, cl⟩ (S_draw DkC)) [])
    (c_law_begun : Cal P w K mg base 27 "_law_begun" (spN FK ⟨K, cl⟩ S_begunC) [])
    (c_law_changed : Cal P w K mg base 27 "_law_changed" (spN FK ⟨K, cl⟩ S_changedC) [])
    (c_law_back : Cal P w K mg base 4 "_law_back" (spN FK ⟨K, cl⟩ S_backC) [])
    (c_law_turned : Cal P w K mg base 1 "_law_turned" (spN FK ⟨K, cl⟩ S_turnedC) [])
    (c_law_is_kept : Cal P w K mg base 27 "_law_is_kept" (spN FK ⟨K, cl⟩ S_isshown) [])
    (c_law_all_right : Cal P w K mg base 28 "_law_all_right" (spN FK ⟨K, cl⟩ S_allC) []) : Cal P w K mg base 29 "_law_right" (spN FK ⟨K, cl⟩ S_right50) [] := by
  have fz := Z.z0
  refine calD hm Fn sc_law_right (by intro ds W post h; first | (obtain ⟨rfl, _⟩ := h; rfl) | (obtain ⟨_, rfl, _⟩ := h; rfl) | (obtain ⟨_, _, rfl, _⟩ := h; rfl) | (obtain ⟨_, _, _, rfl, _⟩ := h; rfl) | (obtain ⟨_, _, _, _, rfl, _⟩ := h; rfl) | (obtain ⟨_, _, _, _, _, rfl, _⟩ := h; rfl) | (obtain ⟨_, _, _, _, _, _, rfl, _⟩ := h; rfl) | (obtain ⟨_, _, _, _, _, _, _, rfl, _⟩ := h; rfl) | (obtain ⟨_, _, _, _, _, _, _, _, rfl, _⟩ := h; rfl) | (obtain ⟨_, _, _, _, _, _, _, _, _, rfl, _⟩ := h; rfl) | (obtain ⟨_, _, _, _, _, _, _, _, _, _, rfl, _⟩ := h; rfl) | (obtain ⟨_, _, _, _, _, _, _, _, _, _, _, rfl, _⟩ := h; rfl)) (fun _ _ _ _ _ _ us hl => match us, hl with | [_], _ => rfl) fun cdv A outer s H E hr => ⟨_, pss_cons (ps_asg (pe_c c_law_begun hr (by omega) (by rfl) (pa_cons (pv 0) pa_nil)) (pg_tup (n := 2) rfl (pgs_cons (pg_name (i := 1) sc_law_right.nd rfl (Or.inl rfl)) (pgs_cons (pg_name (i := 2) sc_law_right.nd rfl (Or.inl rfl)) pgs_nil))))
 (pss_cons (ps_par (i := 3) (j := 4) (by rfl) sc_law_right.nd rfl rfl (by decide) rfl rfl (pa_cons (pe_lst (pa_cons (pv 2) pa_nil)) (pa_cons (pe_lst pa_nil) pa_nil)) (by rfl))
 (pss_cons (ps_for PassesOwn.never rfl (pi_range1 (by rfl) B.range (pa_cons pe_int pa_nil)) (pg_name (i := 5) sc_law_right.nd rfl (Or.inl rfl)) (pss_cons (ps_set (i := 6) sc_law_right.nd rfl (Or.inl rfl) (pe_c c_law_draw hr (by omega) (by rfl) (pa_cons (pv 0) (pa_cons pe_int pa_nil))))
 (pss_cons (ps_if (pt_cmpR op_lt (pv 6) pe_int (nomark _)) (pss_cons (ps_set (i := 7) sc_law_right.nd rfl (Or.inl rfl) (pe_c c_law_changed hr (by omega) (by rfl) (pa_cons (pv 0) (pa_cons (pv 1) (pa_cons (pe_ix ix_list (pv 3) (pe_un un_neg pe_int) (fun _ _ => rfl)) pa_nil)))))
 (pss_one (ps_if (pt_cmp (pc_notN (pv 7))) (pss_one (ps_par (i := 3) (j := 4) (by rfl) sc_law_right.nd rfl rfl (by decide) rfl rfl (pa_cons (pe_op op_cat (pv 3) (pe_lst (pa_cons (pv 7) pa_nil))) (pa_cons (pe_lst pa_nil) pa_nil)) (by rfl))) (pss_nil)))) (pss_cons (ps_set (i := 8) sc_law_right.nd rfl (Or.inl rfl) (pe_ifExp (pt_cmpR op_eq (pv 6) pe_int (nomark _)) (pe_cmpR op_gt (pe_callB call_len (by rfl) B.len bt_len (pa_cons (pv 4) pa_nil)) pe_int (nomark _)) (pe_cmpR op_gt (pe_callB call_len (by rfl) B.len bt_len (pa_cons (pv 3) pa_nil)) pe_int (nomark _))))
 (pss_cons (ps_if (pt_cmpR op_ne (pe_c c_law_back hr (by omega) (by rfl) (pa_cons (pv 1) (pa_cons (pe_cmpR op_eq (pv 6) pe_int (nomark _)) pa_nil))) (pv 8) (nomark _)) (pss_one (ps_ret pe_bl)) (pss_nil))
 (pss_one (ps_asg (pe_c c_law_turned hr (by omega) (by rfl) (pa_cons (pv 3) (pa_cons (pv 4) (pa_cons (pe_cmpR op_eq (pv 6) pe_int (nomark _)) pa_nil)))) (pg_tup (n := 2) rfl (pgs_cons (pg_name (i := 3) sc_law_right.nd rfl (Or.inl rfl)) (pgs_cons (pg_name (i := 4) sc_law_right.nd rfl (Or.inl rfl)) pgs_nil))))))))
 (pss_one (ps_if (pt_not (pt_val (pe_c c_law_is_kept hr (by omega) (by rfl) (pa_cons (pv 1) (pa_cons (pe_ix ix_list (pv 3) (pe_un un_neg pe_int) (fun _ _ => rfl)) pa_nil))))) (pss_one (ps_ret pe_bl)) (pss_nil))))))
 (pss_one (ps_ret (pe_c c_law_all_right hr (by omega) (by rfl) (pa_cons (pv 1) (pa_cons (pv 3) (pa_cons (pv 4) pa_nil)))))))), ?_⟩
  rintro ds W post ⟨a, c, rfl, hd, hc, k⟩
  try dsimp only [cxOf, Cx.nox, Cx.wish]
  have h16 := sizeLine_eq
  refine sw_seq (sw_asgA (ev_call (ea_cons (ev_var rfl (ea_nil ?_)))))
  refine handA ⟨a, c, rfl, hd, by omega, fun p l0 Wd hl0 hd0 => ?_⟩
  try simp only [List.nil_append]
  refine ta_tg (tg_tup rfl (tgs_cons (tg_name (tgs_cons (tg_name (tgs_nil ?_))))))
  refine sw_seq (sw_par (ea_cons (ev_lstF (ea_cons (ev_var rfl (ea_nil ⟨by show 1 ≤ _; omega, ?_⟩))))))
  refine ea_cons (ev_lstF (ea_nil ⟨by show 0 ≤ _; omega, ea_nil ⟨_, _, rfl, ?_⟩⟩))
  refine sw_seq (sw_for (ei_rng1 ?_))
  walk_at "st"
  refine ⟨by omega, by omega, fun i G' W' => ∃ (A : List Rl) (l : Rl) (L : List Rl) (Wd : Om) (o5 o6 o7 o8 : Option D), Stk A l L ∧ A.length + L.length ≤ i ∧ DkC a (c + 100 + 200 * (i : Nat)) Wd ∧ W' = (p, deO (srtR l) (A.map srtR) (L.map srtR)) :: Wd ∧ G' = [some (.adr a), some (.adr p), some (dctC l0), some (.lst (dctsC A ++ [dctC l])), some (.lst (dctsC L)), o5, o6, o7, o8], ⟨[], l0, [], Wd, _, _, _, _, ⟨(fun _ h => nomatch h), hl0, (fun _ h => nomatch h)⟩, Nat.le_refl _, DkC_mono hd0 (by omega), rfl, rfl⟩, ?_, ?_⟩
  · rintro i d G' W' hdd ⟨A, l, L, Wd, o5, o6, o7, o8, hs, hn, hdk, rfl, rfl⟩
    have hi : i < 24 := (rng_get hdd).1
    refine tg_name ?_
    walk_at "st"
    refine ⟨Wd, [_], List.perm_append_comm (l₁ := [_]), a, _, 5, rfl, hdk, by omega, by omega, by omega, fun z W1 z0 z1 hd1 => ?_⟩
    refine sw_mid5 (fun G' W' => ∃ (A : List Rl) (l : Rl) (L : List Rl) (Wd : Om) (o5 o6 o7 o8 : Option D), Stk A l L ∧ A.length + L.length ≤ i + 1 ∧ DkC a (c + 100 + 200 * (i : Nat) + 150) Wd ∧ W'.Perm ((p, deO (srtR l) (A.map srtR) (L.map srtR)) :: Wd) ∧ G' = [some (.adr a), some (.adr p), some (dctC l0), some (.lst (dctsC A ++ [dctC l])), some (.lst (dctsC L)), o5, o6, o7, o8]) ?_ ?_
    · refine sw_if ?_
      walk_at "st"
      refine if_dec (fun h => ?_) (fun h => ?_)
      · refine sw_seq (sw_set (ev_call (ea_cons (ev_var rfl (ea_cons (ev_var rfl (ea_cons (ev_op (ev_var rfl ?_)))))))))
        walk_at "st"
        refine bo_ixL (.inl (.inl rfl)) (atI_snoc _ _) ?_
        refine ea_nil ?_
        refine ⟨(p, deO (srtR l) (A.map srtR) (L.map srtR)) :: W1, [], (List.perm_append_comm (l₁ := W1) (l₂ := [_])).trans (by rw [List.append_nil]; exact List.Perm.refl _), a, _, p, l, A.map srtR, L.map srtR, W1, rfl, rfl, hd1, hs.l, by rw [List.length_map]; omega, by omega, fun W2 hd2 => ?_, fun l' W2 hl' hd2 => ?_⟩
        · try simp only [List.append_nil]
          refine sw_if (et_B (ev_notNV (v := .non) (ev_var rfl ⟨rfl, ?_⟩)))
          refine ⟨_, rfl, ?_⟩
          refine if_not rfl ?_
          exact sw_next ⟨A, l, L, W2, _, _, _, _, hs, by omega, DkC_mono hd2 (by omega), List.Perm.refl _, rfl⟩
        · try simp only [List.append_nil]
          refine sw_if (et_B (ev_notDct (ev_var rfl ⟨_, _, rfl, ?_⟩)))
          refine ⟨_, rfl, ?_⟩
          refine if_so rfl ?_
          refine sw_par (ea_cons (ev_op (ev_var rfl (ev_lstF (ea_cons (ev_var rfl (ea_nil ⟨by show 1 ≤ _; omega, ?_⟩)))))))
          refine bo_cat (.inl rfl) (.inl rfl) (by unfold dctsC; simp only [List.length_map, List.length_append, List.length_cons, List.length_nil]; omega) ?_
          refine ea_cons (ev_lstF (ea_nil ⟨by show 0 ≤ _; omega, ea_nil ⟨_, _, rfl, ?_⟩⟩))
          refine ⟨A ++ [l], l', [], W2, _, _, _, _, ⟨fun y hy => (List.mem_append.mp hy).elim (hs.a y) fun h => (List.mem_singleton.mp h) ▸ hs.l, hl', (fun _ h => nomatch h)⟩, by simp only [List.length_append, List.length_cons, List.length_nil]; omega, DkC_mono hd2 (by omega), by rw [srs_snoc A l]; exact List.Perm.refl _, by rw [dctsC_snoc A l]; rfl⟩
      · refine sw_seq (sw_set (ev_if ?_))
        walk_at "st"
        refine if_dec (fun h4 => ?_) (fun h4 => ?_)
        · have e4 : decide (z = 4) = true := decide_eq_true h4
          walk_at "st"
          rcases List.eq_nil_or_concat L with rfl | ⟨B, x, e⟩
          · rw [e4]
            refine ⟨[_], W1, List.perm_append_comm, p, srtR l, A.map srtR, [].map srtR, true, rfl, rfl, by simp only [List.length_map, List.length_append, List.length_cons, List.length_nil]; omega, by simp only [List.length_map, List.length_append, List.length_cons, List.length_nil]; omega, (fun h => by cases h), (fun _ => ⟨fun _ => ?_, fun bs q e => (no_snoc e).elim⟩)⟩
            refine ev_var rfl (bo_neB ?_)
            refine ⟨_, rfl, ?_⟩
            refine if_not rfl ?_
            refine sw_next ?_
            refine sw_asgA (ev_call (ea_cons (ev_var rfl (ea_cons (ev_var rfl (ea_cons (ev_op (ev_var rfl (ev_c ?_)))))))))
            walk_at "st"
            rw [e4]
            refine hand0 ⟨dctsC A, dctsC [], dctC l, true, rfl, rfl, by unfold dctsC; simp only [List.length_map, List.length_append, List.length_cons, List.length_nil]; omega, (fun _ => ⟨fun _ => ?_, fun C z e => (no_snoc e).elim⟩), (fun h => by cases h)⟩
            try simp only [List.nil_append]
            refine ta_tg (tg_tup rfl (tgs_cons (tg_name (tgs_cons (tg_name (tgs_nil ?_))))))
            exact ⟨A, l, [], W1, _, _, _, _, hs, by simp only [List.length_nil] at *; omega, DkC_mono hd1 (by omega), (by first | exact List.Perm.refl _ | exact List.perm_append_comm), rfl⟩
          rw [List.concat_eq_append] at e
          subst e
          have hx := hs.b x (by simp)
          simp only [List.length_append, List.length_cons, List.length_nil] at hn
          rw [show decide ((0 : Int) < ((dctsC (B ++ [x])).length : Nat)) = true from decide_eq_true (by unfold dctsC; simp only [List.length_map, List.length_append, List.length_cons, List.length_nil]; omega)]
          rw [e4]
          refine ⟨[_], W1, List.perm_append_comm, p, srtR l, A.map srtR, (B ++ [x]).map srtR, true, rfl, rfl, by simp only [List.length_map, List.length_append, List.length_cons, List.length_nil]; omega, by simp only [List.length_map, List.length_append, List.length_cons, List.length_nil]; omega, (fun h => by cases h), (fun _ => ⟨fun e => by rw [srs_snoc] at e; exact (snoc_no e).elim, fun bs q e => ?_⟩)⟩
          rw [srs_snoc] at e
          obtain ⟨rfl, rfl⟩ := snoc_inj5 e
          refine ev_var rfl (bo_neB ?_)
          refine ⟨_, rfl, ?_⟩
          refine if_not rfl ?_
          refine sw_next ?_
          refine sw_asgA (ev_call (ea_cons (ev_var rfl (ea_cons (ev_var rfl (ea_cons (ev_op (ev_var rfl (ev_c ?_)))))))))
          walk_at "st"
          rw [e4]
          refine hand0 ⟨dctsC A, dctsC (B ++ [x]), dctC l, true, rfl, rfl, by unfold dctsC; simp only [List.length_map, List.length_append, List.length_cons, List.length_nil]; omega, (fun _ => ⟨fun e => by rw [dctsC_snoc] at e; exact (snoc_no e).elim, fun C z e => ?_⟩), (fun h => by cases h)⟩
          rw [dctsC_snoc] at e
          obtain ⟨rfl, rfl⟩ := snoc_inj5 e
          try simp only [List.nil_append]
          refine ta_tg (tg_tup rfl (tgs_cons (tg_name (tgs_cons (tg_name (tgs_nil ?_))))))
          exact ⟨A ++ [l], x, B, W1, _, _, _, _, ⟨fun y hy => (List.mem_append.mp hy).elim (hs.a y) fun h => (List.mem_singleton.mp h) ▸ hs.l, hx, fun y hy => hs.b y (List.mem_append_left _ hy)⟩, by simp only [List.length_append, List.length_cons, List.length_nil] at *; omega, DkC_mono hd1 (by omega), by rw [srs_snoc A l]; exact List.Perm.refl _, by rw [dctsC_snoc A l]; rfl⟩
        · have e4 : decide (z = 4) = false := decide_eq_false h4
          walk_at "st"
          rcases List.eq_nil_or_concat A with rfl | ⟨B, x, e⟩
          · rw [e4]
            refine ⟨[_], W1, List.perm_append_comm, p, srtR l, [].map srtR, L.map srtR, false, rfl, rfl, by simp only [List.length_map, List.length_append, List.length_cons, List.length_nil]; omega, by simp only [List.length_map, List.length_append, List.length_cons, List.length_nil]; omega, (fun _ => ⟨fun _ => ?_, fun bs q e => (no_snoc e).elim⟩), (fun h => by cases h)⟩
            refine ev_var rfl (bo_neB ?_)
            refine ⟨_, rfl, ?_⟩
            refine if_not rfl ?_
            refine sw_next ?_
            refine sw_asgA (ev_call (ea_cons (ev_var rfl (ea_cons (ev_var rfl (ea_cons (ev_op (ev_var rfl (ev_c ?_)))))))))
            walk_at "st"
            rw [e4]
            refine hand0 ⟨dctsC [], dctsC L, dctC l, false, rfl, rfl, by unfold dctsC; simp only [List.length_map, List.length_append, List.length_cons, List.length_nil]; omega, (fun h => by cases h), (fun _ => ⟨fun _ => ?_, fun e => absurd rfl e⟩)⟩
            try simp only [List.nil_append]
            refine ta_tg (tg_tup rfl (tgs_cons (tg_name (tgs_cons (tg_name (tgs_nil ?_))))))
            exact ⟨[], l, L, W1, _, _, _, _, hs, by simp only [List.length_nil] at *; omega, DkC_mono hd1 (by omega), (by first | exact List.Perm.refl _ | exact List.perm_append_comm), rfl⟩
          rw [List.concat_eq_append] at e
          subst e
          have hx := hs.a x (by simp)
          simp only [List.length_append, List.length_cons, List.length_nil] at hn
          rw [show decide ((1 : Int) < ((dctsC (B ++ [x]) ++ [dctC l]).length : Nat)) = true from decide_eq_true (by unfold dctsC; simp only [List.length_map, List.length_append, List.length_cons, List.length_nil]; omega)]
          rw [e4]
          refine ⟨[_], W1, List.perm_append_comm, p, srtR l, (B ++ [x]).map srtR, L.map srtR, false, rfl, rfl, by simp only [List.length_map, List.length_append, List.length_cons, List.length_nil]; omega, by simp only [List.length_map, List.length_append, List.length_cons, List.length_nil]; omega, (fun _ => ⟨fun e => by rw [srs_snoc] at e; exact (snoc_no e).elim, fun bs q e => ?_⟩), (fun h => by cases h)⟩
          rw [srs_snoc] at e
          obtain ⟨rfl, rfl⟩ := snoc_inj5 e
          refine ev_var rfl (bo_neB ?_)
          refine ⟨_, rfl, ?_⟩
          refine if_not rfl ?_
          refine sw_next ?_
          refine sw_asgA (ev_call (ea_cons (ev_var rfl (ea_cons (ev_var rfl (ea_cons (ev_op (ev_var rfl (ev_c ?_)))))))))
          walk_at "st"
          rw [e4]
          refine hand0 ⟨dctsC (B ++ [x]), dctsC L, dctC l, false, rfl, rfl, by unfold dctsC; simp only [List.length_map, List.length_append, List.length_cons, List.length_nil]; omega, (fun h => by cases h), (fun _ => ⟨fun e => by rw [dctsC_snoc] at e; exact (snoc_no e).elim, fun _ => ?_⟩)⟩
          try simp only [List.nil_append]
          refine ta_tg (tg_tup rfl (tgs_cons (tg_name (tgs_cons (tg_name (tgs_nil ?_))))))
          exact ⟨B, x, L ++ [l], W1, _, _, _, _, ⟨fun y hy => hs.a y (List.mem_append_left _ hy), hx, fun y hy => (List.mem_append.mp hy).elim (hs.b y) fun h => (List.mem_singleton.mp h) ▸ hs.l⟩, by simp only [List.length_append, List.length_cons, List.length_nil] at *; omega, DkC_mono hd1 (by omega), by rw [srs_snoc L l]; exact List.Perm.refl _, by rw [dctsC_snoc L l, dctsC_snoc B x]; rfl⟩
    rintro G' W' ⟨A, l, L, W2, o5, o6, o7, o8, hs, hn, hd2, hp, rfl⟩
    refine sw_perm hp ?_
    refine sw_if (et_not (et_B (ev_call (ea_cons (ev_var rfl (ea_cons (ev_op (ev_var rfl ?_))))))))
    walk_at "st"
    refine bo_ixL (.inl (.inl rfl)) (atI_snoc _ _) ?_
    refine ea_nil ?_
    refine ⟨[_], W2, List.Perm.refl _, p, l, _, _, rfl, rfl, hs.l, ?_⟩
    refine ⟨_, rfl, ?_⟩
    refine if_not rfl ?_
    refine sw_next ?_
    exact ⟨A, l, L, W2, _, _, _, _, hs, hn, DkC_mono hd2 (by push_cast; omega), rfl, rfl⟩
  rintro G' W' ⟨A, l, L, Wd, o5, o6, o7, o8, hs, hn, hdk, rfl, rfl⟩
  rw [rng_len] at hdk hn
  refine sw_ret (ev_call (ea_cons (ev_var rfl (ea_cons (ev_var rfl (ea_cons (ev_var rfl (ea_nil ?_))))))))
  refine ⟨[_], Wd, List.Perm.refl _, p, A, l, L, rfl, rfl, hs, by simp at hn; omega, fun r as ls => ?_⟩
  exact k _ Wd (DkC_mono hdk (by simp; omega))
end
section
abbrev s_law_far_right : Stmt := top 64
theorem sc_law_far_right : FnScope ["_law_deck_here", "_law_desk", "_law_far", "_law_letter", "_law_lot", "_law_go", "_law_last"] ["_law_deck_here"] (defScope s_law_far_right) := ⟨rfl, rfl, rfl, by decide +kernel, rfl, by decide +kernel, by decide +kernel⟩
theorem c_law_far_right {P : Program} {w : World} {K : PySem.W.Frag} {mg : Str → Option Value} {base : Heap} {cl : Nat → Addr} {f : Addr} {fd : FuncData} (hm : mg "_law_far_right" = some (.ref f)) (B : Blt mg) (Z : ZZ K w mg cl) (Fn : Fun K "_law_far_right" "_law_far_right" s_law_far_right f fd)
    (c_law_formula : Cal P w K mg base 25 "_law_formula" (spN FK ⟨K, cl⟩ (S_builtC 20)) [])
    (c_law_back : Cal P w K mg base 4 "_law_back" (spN FK ⟨K, cl⟩ S_backC) [])
    (mx_Desk : MakX P w K mg base 1 "Desk" (cl 4) 1 ["rules"] (fun vs zs => vs ++ zs) (spX FK ⟨K, cl⟩ (S_initDeX)))
    (ow_setitem4 : OwX P w K mg base 16 (cl 4) "__setitem__" (spX FK ⟨K, cl⟩ (S_layDe)))
    (mw_undo4 : MetX P w K mg base 1 (cl 4) "undo" [] (fun vs zs => vs ++ zs) (spX FK ⟨K, cl⟩ (S_undoDe)))
    (mw_redo4 : MetX P w K mg base 1 (cl 4) "redo" [] (fun vs zs => vs ++ zs) (spX FK ⟨K, cl⟩ (S_redoDe)))
    (m_Rules : Mak P w K mg base 7 "Rules" (cl 3) (spN FK ⟨K, cl⟩ S_initRu) [])
    (p_rules4 : Prp P w K mg base 1 (cl 4) "rules" (spN FK ⟨K, cl⟩ S_rulesDe))
    (o_len4 : Opn P w K mg base 4 (cl 4) "__len__" (spN FK ⟨K, cl⟩ S_lenDe))
    (o_getitem4 : Opi P w K mg base 6 (cl 4) "__getitem__" (spN FK ⟨K, cl⟩ S_getDe))
    (o_str : Opn P w K mg base 1 (cl 0) "__str__" (spN FK ⟨K, cl⟩ S_str))
    (o_eq : Opn P w K mg base 1 (cl 0) "__eq__" (spN FK ⟨K, cl⟩ S_eqF)) : Cal P w K mg base 26 "_law_far_right" (spN FK ⟨K, cl⟩ S_farC) [] := by
  have fz := Z.z0
  refine calD hm Fn sc_law_far_right (by intro ds W post h; first | (obtain ⟨rfl, _⟩ := h; rfl) | (obtain ⟨_, rfl, _⟩ := h; rfl) | (obtain ⟨_, _, rfl, _⟩ := h; rfl) | (obtain ⟨_, _, _, rfl, _⟩ := h; rfl) | (obtain ⟨_, _, _, _, rfl, _⟩ := h; rfl) | (obtain ⟨_, _, _, _, _, rfl, _⟩ := h; rfl) | (obtain ⟨_, _, _, _, _, _, rfl, _⟩ := h; rfl) | (obtain ⟨_, _, _, _, _, _, _, rfl, _⟩ := h; rfl) | (obtain ⟨_, _, _, _, _, _, _, _, rfl, _⟩ := h; rfl) | (obtain ⟨_, _, _, _, _, _, _, _, _, rfl, _⟩ := h; rfl) | (obtain ⟨_, _, _, _, _, _, _, _, _, _, rfl, _⟩ := h; rfl) | (obtain ⟨_, _, _, _, _, _, _, _, _, _, _, rfl, _⟩ := h; rfl)) (fun _ _ _ _ _ _ us hl => match us, hl with | [_], _ => rfl) fun cdv A outer s H E hr => ⟨_, pss_cons (ps_par (i := 1) (j := 2) (by rfl) sc_law_far_right.nd rfl rfl (by decide) rfl rfl (pa_cons (pe_mkkX mx_Desk hr (by omega) (by rfl) takes0 (pk_cons (pe_mk m_Rules hr (by omega) (by rfl) (pa_cons (pe_tup (pa_cons (pe_tup (pa_cons pe_str (pa_cons pe_str pa_nil))) pa_nil)) pa_nil)) (pk_nil))) (pa_cons pe_int pa_nil)) (by rfl))
 (pss_cons (ps_setLc (i := 4) (own := [("_law_letter", 3)]) (by rfl) sc_law_far_right.nd rfl rfl (sw_true rfl rfl rfl (by decide +kernel)) (pi_str pe_str) (blkOk_by (own := [("_law_letter", 3)]) (N := ["_law_deck_here", "_law_desk", "_law_far", "_law_letter", "_law_lot", "_law_go", "_law_last"]) (sc := defScope s_law_far_right) (by decide +kernel)) (fun _ _ _ _ _ => (pg_name (i := 3) sc_law_far_right.nd rfl (Or.inl rfl))) (fun _ _ _ _ _ => pts_nil) (fun _ _ _ _ _ => (pe_c c_law_formula hr (by omega) (by rfl) (pa_cons (pe_tup (pa_cons pe_str (pa_cons (pe_tup (pa_cons pe_str (pa_cons (pv 3) pa_nil))) pa_nil))) pa_nil))))
 (pss_cons (ps_for PassesOwn.never rfl (pi_range1 (by rfl) B.range (pa_cons (pv 2) pa_nil)) (pg_name (i := 5) sc_law_far_right.nd rfl (Or.inl rfl)) (pss_one (ps_setX ow_setitem4 hr (by omega) Z.nq4 takes0 (pv 1) (pe_ix ix_tup (pe_tup (pa_cons pe_str (pa_cons pe_str pa_nil))) (pe_op op_mod (pv 5) pe_int) (fun _ _ => rfl)) (pe_ix ix_list (pv 4) (pe_op op_mod (pe_op op_fdiv (pv 5) pe_int) pe_int) (fun _ _ => rfl)) rfl)))
 (pss_cons (ps_set (i := 6) sc_law_far_right.nd rfl (Or.inl rfl) (pe_fld (pe_prp p_rules4 Z.z4.cls hr (by omega) (pv 1)) rfl))
 (pss_cons (ps_for PassesOwn.never rfl (pi_range1 (by rfl) B.range (pa_cons (pv 2) pa_nil)) (pg_name (i := 5) sc_law_far_right.nd rfl (Or.inl rfl)) (pss_one (ps_expr (pe_mt0X mw_undo4 hr (by omega) takes0 (pv 1)))))
 (pss_cons (ps_if (PW.pt (pw_or (pt_cmpR op_notBl (pe_c c_law_back hr (by omega) (by rfl) (pa_cons (pv 1) (pa_cons pe_bl pa_nil))) pe_bl (nomark _)) (pw_or (pt_cmpR op_ne (pe_callB (call_len_opn o_len4 hr (by omega)) (by rfl) B.len bt_len (pa_cons (pv 1) pa_nil)) pe_int (nomark _)) (pw_or1 (pt_cmpR op_ne (pe_callTy (call_str_opn o_str hr (by omega)) (by rfl) B.str bt_str (pa_cons (pe_ixOwn o_getitem4 hr (by omega) (pv 1) pe_str) pa_nil)) pe_str (nomark _)))))) (pss_one (ps_ret pe_bl)) (pss_nil))
 (pss_cons (ps_for PassesOwn.never rfl (pi_range1 (by rfl) B.range (pa_cons (pv 2) pa_nil)) (pg_name (i := 5) sc_law_far_right.nd rfl (Or.inl rfl)) (pss_one (ps_expr (pe_mt0X mw_redo4 hr (by omega) takes0 (pv 1)))))
 (pss_one (ps_ret (pe_and (pe_cmpR op_isBl (pe_c c_law_back hr (by omega) (by rfl) (pa_cons (pv 1) (pa_cons pe_bl pa_nil))) pe_bl (nomark _)) (pe_and (pe_cmpR (op_eqAT (T := ⟨K, cl⟩) 1 o_eq hr (by omega)) (pe_fld (pe_prp p_rules4 Z.z4.cls hr (by omega) (pv 1)) rfl) (pv 6) (nomark _)) (pe_one (pe_cmpR op_eq (pe_callB (call_len_opn o_len4 hr (by omega)) (by rfl) B.len bt_len (pa_cons (pv 1) pa_nil)) pe_int (nomark _))))))))))))), ?_⟩
  rintro ds W post ⟨a, rfl, k⟩
  try dsimp only [cxOf, Cx.nox, Cx.wish]
  have h16 := sizeLine_eq
  refine sw_drp (List.nil_sublist _) ?_
  refine sw_seq (sw_par (ea_cons (ev_ofX (evx_mkk (ea_cons (ev_mkRu ?_))))))
  walk_at "st"
  refine ⟨[(80, .str "a", .at 97)], rfl, ?_, far_rl 0, ?_⟩
  · intro e he
    rw [List.mem_singleton] at he
    subst he
    exact .inr ⟨97, by decide, rfl, rfl⟩
  refine ea_nil ⟨rfl, fun x => [.adr x, rlD (far 0)], fun H x zs hz => ⟨_, _, rfl, rfl, hz⟩, fun x hx => ?_⟩
  refine handXA ⟨x, far 0, rfl, rfl, rfl, ?_⟩
  refine ea_cons (ev_c (ea_nil ⟨_, _, rfl, ?_⟩))
  have hab : ("abcP" : Str).cps.toList = [97, 98, 99, 80] := by decide +kernel
  refine sw_seq (sw_set (ev_lcM (ei_str ?_)))
  walk_at "st"
  rw [hab]
  refine ⟨lotD, fun i d e hd he => ?_, rfl, by show 4 ≤ _; omega, ?_⟩
  · rw [List.getElem?_map] at hd he
    obtain ⟨u, hu, rfl⟩ := Option.map_eq_some_iff.mp hd
    rw [hu] at he
    obtain rfl := Option.some.inj he
    have hm := List.mem_of_getElem? hu
    have hltr : (65 ≤ u ∧ u ≤ 90) ∨ (97 ≤ u ∧ u ≤ 122) := by
      simp only [List.mem_cons, List.not_mem_nil, or_false] at hm
      omega
    refine tw_name (by simp) ?_
    refine et_yes ⟨rfl, ?_⟩
    walk_at "st"
    refine hand0 ⟨.all (.at u), rfl, rfl, by simp [Fm.ht], okF_many hltr (by simp [Fm.many]), ?_⟩
    exact ⟨rfl, rfl⟩
  refine sw_seq (sw_for (ei_rng1 (ea_cons (ev_var rfl (ea_nil ?_)))))
  refine ⟨_, rfl, by omega, by omega, fun i G' W' => ∃ (o3 o5 o6 : Option D), G' = [some (.adr a), some (.adr x), some (.int 300), o3, some (.lst lotD), o5, o6] ∧ W' = [(x, deO (far i) (farA i) [])], ⟨_, _, _, rfl, rfl⟩, ?_, ?_⟩
  · rintro i d G' W' hdd ⟨o3, o5, o6, rfl, rfl⟩
    obtain ⟨hi, rfl⟩ := rng_get hdd
    have hi : i < 300 := hi
    have hin : Inst FK [(x, deO (far i) (farA i) [])] (.adr x) 4 deNames [rlD (far i), tupR (farA i), tupR []] := inst_de List.mem_cons_self
    refine tg_name ?_
    refine sw_ofX (W0 := fun _ _ _ _ => False) ?_
    refine swx_setX (ev_op (ev_var rfl ?_))
    walk_at "st"
    refine bo_ixL (.inl (.inl rfl)) (lot_at i) ?_
    refine ev_var rfl (ev_op ?_)
    walk_at "st"
    refine bo_ixT (pq_at i) ?_
    refine ⟨_, _, hin, ?_⟩
    have hcap : 65 ≤ farK i ∧ farK i ≤ 90 := by rcases farK_or i with e | e <;> omega
    refine handXA ⟨x, far i, farA i, [], .str (sg (farK i)), .fm (lotF (i / 2 % 4)), rfl, rfl, far_rl i, .inl ⟨_, rfl, Nat.le_of_ble_eq_true rfl⟩, .inl ⟨_, rfl⟩, fun f e => (D.fm.inj e) ▸ lotF_okF i, by rw [farA_len]; omega, fun c f e h1 h2 ho => ?_, fun hb => ?_⟩
    · obtain rfl : c = farK i := (sg_inj (V.str.inj (D.vl.inj e))).symm
      obtain rfl : f = lotF (i / 2 % 4) := opd_inj ho (.inl rfl)
      refine ⟨fun er => ?_, fun s er => ?_⟩
      · exact ⟨_, _, _, rfl, by rw [farA_succ]; rfl⟩
      · have z := far_err (i + 1)
        rw [show far (i + 1) = srtR (putN (far i) (farK i) (lotF (i / 2 % 4))) from rfl, er] at z
        cases z
    · exfalso
      rw [show isRuleB (.str (sg (farK i))) (.fm (lotF (i / 2 % 4))) = true from by unfold isRuleB; rw [show isFrmD (.fm (lotF (i / 2 % 4))) = true from rfl, Bool.and_true]; exact isCap_sg hcap.1 hcap.2] at hb
      cases hb
  rintro G' W' ⟨o3, o5, o6, rfl, rfl⟩
  rw [show (rng 0 (Int.toNat 300)).length = 300 from rng_len 0 300]
  refine sw_seq (sw_set (ev_flR Z.z3 (ev_prop (ev_var rfl ?_))))
  refine ⟨_, _, inst_de List.mem_cons_self, ?_⟩
  refine handA ⟨x, far 300, farA 300, [], rfl, rfl, far_rl 300, ?_⟩
  refine ⟨far 300, rfl, .inl ⟨rfl, ?_⟩⟩
  refine sw_seq (sw_for (ei_rng1 (ea_cons (ev_var rfl (ea_nil ?_)))))
  refine ⟨_, rfl, by omega, by omega, fun i G' W' => ∃ (o3 o5 : Option D), G' = [some (.adr a), some (.adr x), some (.int 300), o3, some (.lst lotD), o5, some (rowsR (far 300))] ∧ W' = [(x, deO (far (300 - i)) (farA (300 - i)) (farL (300 - i)))], ⟨_, _, rfl, rfl⟩, ?_, ?_⟩
  · rintro i d G' W' hdd ⟨o3, o5, rfl, rfl⟩
    obtain ⟨hi, rfl⟩ := rng_get hdd
    have hi : i < 300 := hi
    obtain ⟨n, hn⟩ : ∃ n, 300 - i = n + 1 := ⟨299 - i, by omega⟩
    rw [hn]
    refine tg_name ?_
    refine sw_ofX (W0 := fun _ _ _ _ => False) ?_
    refine swx_drop (evx_meth (ev_var rfl ?_))
    refine ⟨_, _, inst_de List.mem_cons_self, by decide +kernel, ?_⟩
    refine ea_nil ?_
    refine handXA ⟨x, far (n + 1), farA (n + 1), farL (n + 1), rfl, rfl, by rw [farL_len]; omega, fun e => ?_, fun bs q e => ?_⟩
    · rw [farA_succ] at e
      exact (snoc_no e).elim
    · rw [farA_succ] at e
      obtain ⟨rfl, rfl⟩ := snoc_inj5 e
      exact ⟨_, _, rfl, by rw [show 300 - (i + 1) = n from by omega, farL_step (show n < 300 by omega)]⟩
  rintro G' W' ⟨o3, o5, rfl, rfl⟩
  rw [show (rng 0 (Int.toNat 300)).length = 300 from rng_len 0 300]
  have hi0 : Inst FK [(x, deO (far 0) (farA 0) (farL 0))] (.adr x) 4 deNames [rlD (far 0), tupR (farA 0), tupR (farL 0)] := inst_de List.mem_cons_self
  refine sw_seq (sw_if (et_or (et_test (ev_op (ev_call (ea_cons (ev_var rfl (ea_cons (ev_c (ea_nil ?_))))))))))
  refine handA ⟨x, far 0, farA 0, farL 0, false, rfl, rfl, by rw [farA_len]; omega, by rw [farL_len]; omega, fun _ => ⟨fun _ => ?_, fun bs q e => (no_snoc (show [] = bs ++ [q] from e)).elim⟩, fun h => by cases h⟩
  refine ev_c (bo_notB ?_)
  refine ⟨_, rfl, ?_⟩
  refine if_not rfl ?_
  refine et_or (et_test (ev_op (ev_cb (ea_cons (ev_var rfl (ea_nil ?_))))))
  refine ca_lenO hi0 ?_
  refine handA ⟨x, far 0, farA 0, farL 0, rfl, rfl, far_rl 0, ⟨_, rfl, by omega, by decide⟩, ?_⟩
  refine ev_c (bo_neI ?_)
  refine ⟨_, rfl, ?_⟩
  refine if_not (by decide) ?_
  refine et_test (ev_op (ev_cb (ea_cons (ev_op (ev_var rfl ?_)))))
  refine ev_c (bo_ownIx hi0 ?_)
  refine handA ⟨x, far 0, farA 0, farL 0, (80, .at 97), rfl, rfl, far_rl 0, by simp [far], ?_⟩
  walk_at "st"
  refine hand0 ⟨.at 97, rfl, rfl, ⟨_, rfl⟩, ?_⟩
  try simp only [List.nil_append]
  refine ev_c (bo_neS ?_)
  refine ⟨_, rfl, ?_⟩
  refine if_not (by decide +kernel) ?_
  refine sw_next ?_
  refine sw_seq (sw_for (ei_rng1 (ea_cons (ev_var rfl (ea_nil ?_)))))
  refine ⟨_, rfl, by omega, by omega, fun i G' W' => ∃ (o3 o5 : Option D), G' = [some (.adr a), some (.adr x), some (.int 300), o3, some (.lst lotD), o5, some (rowsR (far 300))] ∧ W' = [(x, deO (far i) (farA i) (farL i))], ⟨_, _, rfl, rfl⟩, ?_, ?_⟩
  · rintro i d G' W' hdd ⟨o3, o5, rfl, rfl⟩
    obtain ⟨hi, rfl⟩ := rng_get hdd
    have hi : i < 300 := hi
    refine tg_name ?_
    refine sw_ofX (W0 := fun _ _ _ _ => False) ?_
    refine swx_drop (evx_meth (ev_var rfl ?_))
    refine ⟨_, _, inst_de List.mem_cons_self, by decide +kernel, ?_⟩
    refine ea_nil ?_
    refine handXA ⟨x, far i, farA i, farL i, rfl, rfl, by rw [farA_len]; omega, fun e => ?_, fun bs q e => ?_⟩
    · rw [farL_step hi] at e
      exact (snoc_no e).elim
    · rw [farL_step hi] at e
      obtain ⟨rfl, rfl⟩ := snoc_inj5 e
      exact ⟨_, _, rfl, by rw [farA_succ]⟩
  rintro G' W' ⟨o3, o5, rfl, rfl⟩
  rw [show (rng 0 (Int.toNat 300)).length = 300 from rng_len 0 300]
  have hi3 : Inst FK [(x, deO (far 300) (farA 300) (farL 300))] (.adr x) 4 deNames [rlD (far 300), tupR (farA 300), tupR (farL 300)] := inst_de List.mem_cons_self
  refine sw_ret (ev_andV (ev_op (ev_call (ea_cons (ev_var rfl (ea_cons (ev_c (ea_nil ?_))))))))
  refine handA ⟨x, far 300, farA 300, farL 300, true, rfl, rfl, by rw [farA_len]; omega, by rw [farL_len]; omega, (fun h => by cases h), fun _ => ⟨fun _ => ?_, fun bs q e => (no_snoc (show [] = bs ++ [q] from e)).elim⟩⟩
  refine ev_c (bo_isB ?_)
  refine ⟨_, rfl, ?_⟩
  refine if_so rfl ?_
  refine ev_andV (ev_op (ev_flR Z.z3 (ev_prop (ev_var rfl ?_))))
  refine ⟨_, _, hi3, ?_⟩
  refine handA ⟨x, far 300, farA 300, farL 300, rfl, rfl, far_rl 300, ?_⟩
  refine ⟨far 300, rfl, .inl ⟨rfl, ?_⟩⟩
  refine ev_var rfl ?_
  refine bo_eqAT (m := 1) (fun x hx => ?_) ?_
  · obtain ⟨q, hq, rfl⟩ := List.mem_map.mp hx
    refine .tup fun y hy => ?_
    simp only [List.mem_cons, List.not_mem_nil, or_false] at hy
    rcases hy with rfl | rfl
    · exact .vl rfl
    · exact .fm
  refine ⟨_, rfl, ?_⟩
  refine if_so rfl ?_
  refine ev_op (ev_cb (ea_cons (ev_var rfl (ea_nil ?_))))
  refine ca_lenO hi3 ?_
  refine handA ⟨x, far 300, farA 300, farL 300, rfl, rfl, far_rl 300, ⟨_, rfl, by omega, by rw [far_len]; decide⟩, ?_⟩
  refine ev_c (bo_eqI ?_)
  rw [far_len]
  exact k _
abbrev s_law : Stmt := top 65
theorem sc_law : FnScope ["_law_script", "_law_deck_here", "_law_go"] ["_law_script"] (defScope s_law) := ⟨rfl, rfl, rfl, by decide +kernel, rfl, by decide +kernel, by decide +kernel⟩
theorem c_law {P : Program} {w : World} {K : PySem.W.Frag} {mg : Str → Option Value} {base : Heap} {cl : Nat → Addr} {f : Addr} {fd : FuncData} (hm : mg "law" = some (.ref f)) (B : Blt mg) (Z : ZZ K w mg cl) (Fn : Fun K "law" "law" s_law f fd)
    (c_law_deck : Cal P w K mg base 1 "_law_deck" (spN FK ⟨K, cl⟩ (S_deck DkC)) [])
    (c_law_right : Cal P w K mg base 29 "_law_right" (spN FK ⟨K, cl⟩ S_right50) [])
    (c_law_far_right : Cal P w K mg base 26 "_law_far_right" (spN FK ⟨K, cl⟩ S_farC) []) : CalG P w K mg base 30 "law" (spN FK ⟨K, cl⟩ S_law) := by
  have fz := Z.z0
  refine calG hm Fn sc_law (by intro ds W post h; first | (obtain ⟨rfl, _⟩ := h; rfl) | (obtain ⟨_, rfl, _⟩ := h; rfl) | (obtain ⟨_, _, rfl, _⟩ := h; rfl) | (obtain ⟨_, _, _, rfl, _⟩ := h; rfl) | (obtain ⟨_, _, _, _, rfl, _⟩ := h; rfl) | (obtain ⟨_, _, _, _, _, rfl, _⟩ := h; rfl) | (obtain ⟨_, _, _, _, _, _, rfl, _⟩ := h; rfl) | (obtain ⟨_, _, _, _, _, _, _, rfl, _⟩ := h; rfl) | (obtain ⟨_, _, _, _, _, _, _, _, rfl, _⟩ := h; rfl) | (obtain ⟨_, _, _, _, _, _, _, _, _, rfl, _⟩ := h; rfl) | (obtain ⟨_, _, _, _, _, _, _, _, _, _, rfl, _⟩ := h; rfl) | (obtain ⟨_, _, _, _, _, _, _, _, _, _, _, rfl, _⟩ := h; rfl)) (fun _ _ _ _ _ _ us hl => match us, hl with | [_], _ => rfl) fun cdv A outer s H hg hr => ⟨_, pss_cons (ps_set (i := 1) sc_law.nd rfl (Or.inl rfl) (pe_c c_law_deck hr (by omega) (by rfl) (pa_cons (pv 0) pa_nil)))
 (pss_cons (ps_for PassesOwn.never rfl (pi_range1 (by rfl) B.range (pa_cons pe_int pa_nil)) (pg_name (i := 2) sc_law.nd rfl (Or.inl rfl)) (pss_one (ps_if (pt_not (pt_val (pe_c c_law_right hr (by omega) (by rfl) (pa_cons (pv 1) pa_nil)))) (pss_one (ps_ret pe_bl)) (pss_nil))))
 (pss_one (ps_ret (pe_c c_law_far_right hr (by omega) (by rfl) (pa_cons (pv 1) pa_nil))))), ?_⟩
  rintro ds W post ⟨ns, rfl, rfl, hl, k⟩
  try dsimp only [cxOf, Cx.nox, Cx.wish]
  have h16 := sizeLine_eq
  walk_at "st"
  refine handA ⟨ns, rfl, rfl, hl, fun a W hd => ?_⟩
  try walk_at "st"
  refine sw_for (ei_rng1 ?_)
  walk_at "st"
  refine ⟨by omega, by omega, fun i G W => DkC a (6000 * (i : Nat)) W ∧ ∃ o2, G = [some (.scr (ns.map V.int)), some (.adr a), o2], ⟨DkC_mono hd (by omega), _, rfl⟩, ?_, ?_⟩
  · rintro i0 d G' W' hdd ⟨hd, o2, rfl⟩
    have hi : i0 < 2 := (rng_get hdd).1
    refine tg_name ?_
    refine sw_if (et_not (et_B (ev_call (ea_cons (ev_var rfl (ea_nil ?_))))))
    refine handA ⟨a, _, rfl, hd, by omega, fun x W5 hd5 => ?_⟩
    refine ⟨_, rfl, ?_⟩
    refine if_not rfl ?_
    refine sw_drp (List.sublist_cons_self _ _) ?_
    refine sw_next ?_
    exact ⟨DkC_mono hd5 (by push_cast; omega), _, rfl⟩
  rintro G' W' ⟨hd, o2, rfl⟩
  walk_at "st"
  refine handA ⟨a, rfl, fun W' => ?_⟩
  try walk_at "st"
  exact k _
end
end N
set_option Elab.async false
set_option linter.all false
set_option maxRecDepth 100000
namespace N
open PySem PySem.Spec PyProof.Rows L2
open C8 (Cal Met Mak InsC)
set_option maxHeartbeats 4000000
theorem all_mk {P : Program} {w : World} {K : PySem.W.Frag} {h base : Heap} {mg : Str → Option Value} {fa : Addr} (X : K.In h) (G : h.Ns mainGlobals mg) (hfa : mg "law" = some (.ref fa)) (hw : w = w)
    {C0 : Addr} {C3 : Addr} {C4 : Addr} {C33 : Addr} {C34 : Addr} {C100 : Addr} {C101 : Addr} {C40 : Addr}
    {t0 : PySem.Tok}
    {t1 : PySem.Tok}
    {t2 : PySem.Tok}
    {t3 : PySem.Tok}
    {t4 : PySem.Tok}
    {dd5 : Addr} {es5 : Array DictEntry} {en5 : Nat} {u5_0 : PySem.Tok} {u5_1 : PySem.Tok} {u5_2 : PySem.Tok} {u5_3 : PySem.Tok}
    {t6 : PySem.Tok}
    {t7 : PySem.Tok}
    {t8 : PySem.Tok}
    {t9 : PySem.Tok}
    {t10 : PySem.Tok}
    {t11 : PySem.Tok}
    {t12 : PySem.Tok}
    
    {nme33 qne33 : Str} {NAe33 : Addr} {bse33 : List Value} {sne33 : List Str} {sube33 : List Value} {abe33 : Bool} {coe33 : Option Bool} {dde33 : Option Addr} {x0e33 x1e33 x2e33 x3e33 x5e33 : Option Value}
    
    {nme34 qne34 : Str} {NAe34 : Addr} {bse34 : List Value} {sne34 : List Str} {sube34 : List Value} {abe34 : Bool} {coe34 : Option Bool} {dde34 : Option Addr} {x0e34 x1e34 x2e34 x3e34 x5e34 : Option Value}
    {CW : Addr}
    {f1 : Addr} {fd1 : FuncData}
    {f2 : Addr} {fd2 : FuncData}
    {f3 : Addr} {fd3 : FuncData}
    {f4 : Addr} {fd4 : FuncData}
    {f5 : Addr} {fd5 : FuncData}
    {f6 : Addr} {fd6 : FuncData}
    {f7 : Addr} {fd7 : FuncData}
    {f8 : Addr} {fd8 : FuncData}
    {f9 : Addr} {fd9 : FuncData}
    {f10 : Addr} {fd10 : FuncData}
    {f11 : Addr} {fd11 : FuncData}
    {pA12 : Addr} {pR12 : List Value}
    {f12 : Addr} {fd12 : FuncData}
    {f13 : Addr} {fd13 : FuncData}
    {f14 : Addr} {fd14 : FuncData}
    {f15 : Addr} {fd15 : FuncData}
    {f16 : Addr} {fd16 : FuncData}
    {f17 : Addr} {fd17 : FuncData}
    {f18 : Addr} {fd18 : FuncData}
    {f19 : Addr} {fd19 : FuncData}
    {f20 : Addr} {fd20 : FuncData}
    {pA21 : Addr} {pR21 : List Value}
    {f21 : Addr} {fd21 : FuncData}
    {f22 : Addr} {fd22 : FuncData}
    {f23 : Addr} {fd23 : FuncData}
    {f24 : Addr} {fd24 : FuncData}
    {f25 : Addr} {fd25 : FuncData}
    {f26 : Addr} {fd26 : FuncData}
    {f27 : Addr} {fd27 : FuncData}
    {f28 : Addr} {fd28 : FuncData}
    {f29 : Addr} {fd29 : FuncData}
    {f30 : Addr} {fd30 : FuncData}
    {f31 : Addr} {fd31 : FuncData}
    {f32 : Addr} {fd32 : FuncData}
    {f33 : Addr} {fd33 : FuncData}
    {f34 : Addr} {fd34 : FuncData}
    {f35 : Addr} {fd35 : FuncData}
    {f36 : Addr} {fd36 : FuncData}
    {f37 : Addr} {fd37 : FuncData}
    {f38 : Addr} {fd38 : FuncData}
    {f39 : Addr} {fd39 : FuncData}
    {f40 : Addr} {fd40 : FuncData}
    {f41 : Addr} {fd41 : FuncData}
    {f42 : Addr} {fd42 : FuncData}
    {f43 : Addr} {fd43 : FuncData}
    {f44 : Addr} {fd44 : FuncData}
    {f45 : Addr} {fd45 : FuncData}
    {f46 : Addr} {fd46 : FuncData}
    {f47 : Addr} {fd47 : FuncData}
    {f48 : Addr} {fd48 : FuncData}
    (z0 : PySem.W.nsIn K mainGlobals "len" = some none)
    (z1 : PySem.W.nsIn K mainGlobals "int" = some none)
    (z2 : PySem.W.nsIn K mainGlobals "str" = some none)
    (z3 : PySem.W.nsIn K mainGlobals "range" = some none)
    (z4 : PySem.W.nsIn K mainGlobals "list" = some none)
    (z5 : PySem.W.nsIn K mainGlobals "tuple" = some none)
    (z6 : PySem.W.nsIn K mainGlobals "dict" = some none)
    (z7 : PySem.W.nsIn K mainGlobals "set" = some none)
    (z8 : PySem.W.nsIn K mainGlobals "sorted" = some none)
    (z9 : PySem.W.nsIn K mainGlobals "isinstance" = some none)
    (z10 : PySem.W.nsIn K mainGlobals "repr" = some none)
    (z11 : PySem.W.nsIn K mainGlobals "max" = some none)
    (z12 : PySem.W.nsIn K mainGlobals "min" = some none)
    (z13 : PySem.W.nsIn K mainGlobals "sum" = some none)
    (z14 : PySem.W.nsIn K mainGlobals "all" = some none)
    (z15 : PySem.W.nsIn K mainGlobals "any" = some none)
    (z16 : PySem.W.nsIn K mainGlobals "zip" = some none)
    (z17 : PySem.W.nsIn K mainGlobals "enumerate" = some none)
    (z18 : PySem.W.nsIn K mainGlobals "bool" = some none)
    (z19 : PySem.W.nsIn K mainGlobals "reversed" = some none)
    (z20 : PySem.W.nsIn K mainGlobals "type" = some none)
    (s0 : PySem.W.nsIn K mainGlobals "LETTERS" = some (some (.str "ABCDEFGHIJKLMNOPQRSTUVWXYZabcdefghijklmnopqrstuvwxyz" t0)))
    (s1 : PySem.W.nsIn K mainGlobals "ATOM" = some (some (.str "atom" t1)))
    (s2 : PySem.W.nsIn K mainGlobals "NO" = some (some (.str "no" t2)))
    (s3 : PySem.W.nsIn K mainGlobals "IF" = some (some (.str "if" t3)))
    (s4 : PySem.W.nsIn K mainGlobals "ALL" = some (some (.str "all" t4)))
    (aP5 : PySem.W.nsIn K mainGlobals "PARTS_OF" = some (some (.ref dd5)))
    (lP5 : K.lookup dd5 = some ⟨.type "dict", none, .dict es5 en5, #[]⟩)
    (lit5 : PySem.W.KeysLit w.params es5.toList)
    (low5 : (dd5 == sysModules) = false)
    (p5_0 : PySem.W.nsIn K dd5 "atom" = some (some (.int 1 u5_0)))
    (p5_1 : PySem.W.nsIn K dd5 "no" = some (some (.int 0 u5_1)))
    (p5_2 : PySem.W.nsIn K dd5 "if" = some (some (.int 2 u5_2)))
    (p5_3 : PySem.W.nsIn K dd5 "all" = some (some (.int 1 u5_3)))
    (s6 : PySem.W.nsIn K mainGlobals "ALL_AHEAD" = some (some (.str "all " t6)))
    (s7 : PySem.W.nsIn K mainGlobals "BETWEEN" = some (some (.str " > " t7)))
    (s8 : PySem.W.nsIn K mainGlobals "MOST_MARKS" = some (some (.int 4 t8)))
    (s9 : PySem.W.nsIn K mainGlobals "PAIR_PARTS" = some (some (.int 2 t9)))
    (s10 : PySem.W.nsIn K mainGlobals "CAPITALS" = some (some (.str "ABCDEFGHIJKLMNOPQRSTUVWXYZ" t10)))
    (s11 : PySem.W.nsIn K mainGlobals "ROWS" = some (some (.str "rows" t11)))
    (s12 : PySem.W.nsIn K mainGlobals "ORDER" = some (some (.str "order" t12)))
    (aC0 : PySem.W.nsIn K mainGlobals "Formula" = some (some (.ref C0)))
    (pg0 : PySem.W.plainGet K C0 Str.empty = true)
    (hd0 : PySem.W.hasDictIn K C0 = true)
    (po0 : PySem.W.plainOver K C0 = true)
    (sa0 : PySem.W.findIn K (.ref C0) "__setattr__" = some (some (.builtin "object.__setattr__")))
    (mk0 : PySem.W.makesIn K C0 = true)
    (kc0 : PySem.W.keepIn K (.ref C0) = true)
    (n0_0 : PySem.W.findIn K (.ref C0) "kind" = some none)
    (n0_1 : PySem.W.findIn K (.ref C0) "parts" = some none)
    (n0_2 : PySem.W.findIn K (.ref C0) "many" = some none)
    (n0_3 : PySem.W.findIn K (.ref C0) "deepest" = some none)
    (n0_4 : PySem.W.findIn K (.ref C0) "atoms" = some none)
    (n0_5 : PySem.W.findIn K (.ref C0) "bare" = some none)
    (n0_6 : PySem.W.findIn K (.ref C0) "spelled" = some none)
    (n0_7 : PySem.W.findIn K (.ref C0) "alls_known" = some none)
    (ha0 : PySem.W.findIn K (.ref C0) "__class__" = some (some (.builtin "object.__class__")))
    (hn0 : PySem.W.specialIn K (.builtin "object.__class__") "__get__" = some (some (.builtin "getset_descriptor.__get__")))
    (htk0 : PySem.W.takesIn K (.builtin "object.__class__") = some true)
    (hmo0 : PySem.W.mroIn K C0 (.type "object") = some true)
    (me0 : PySem.W.kitOne K (.ref C0) (.ref C0) = some true)
    (sf0 : PySem.W.selfFirst K C0 = true)
    (is0 : PySem.W.kitOne K (.type "str") (.ref C0) = some false)
    (ne0 : PySem.W.findIn K (.ref C0) "__ne__" = some (some (.builtin "object.__ne__")))
    (qn0_0 : PySem.W.kitOne K (.type "NoneType") (.ref C0) = some false)
    (qn0_1 : PySem.W.kitOne K (.type "bool") (.ref C0) = some false)
    (qn0_2 : PySem.W.kitOne K (.type "int") (.ref C0) = some false)
    (qn0_3 : PySem.W.kitOne K (.type "tuple") (.ref C0) = some false)
    (qn0_4 : PySem.W.kitOne K (.type "list") (.ref C0) = some false)
    (qn0_5 : PySem.W.kitOne K (.type "dict") (.ref C0) = some false)
    (aC3 : PySem.W.nsIn K mainGlobals "Rules" = some (some (.ref C3)))
    (pg3 : PySem.W.plainGet K C3 Str.empty = true)
    (hd3 : PySem.W.hasDictIn K C3 = true)
    (po3 : PySem.W.plainOver K C3 = true)
    (sa3 : PySem.W.findIn K (.ref C3) "__setattr__" = some (some (.builtin "object.__setattr__")))
    (mk3 : PySem.W.makesIn K C3 = true)
    (kc3 : PySem.W.keepIn K (.ref C3) = true)
    (n3_0 : PySem.W.findIn K (.ref C3) "rows" = some none)
    (n3_1 : PySem.W.findIn K (.ref C3) "forms_by_mark" = some none)
    (ha3 : PySem.W.findIn K (.ref C3) "__class__" = some (some (.builtin "object.__class__")))
    (hn3 : PySem.W.specialIn K (.builtin "object.__class__") "__get__" = some (some (.builtin "getset_descriptor.__get__")))
    (htk3 : PySem.W.takesIn K (.builtin "object.__class__") = some true)
    (hmo3 : PySem.W.mroIn K C3 (.type "object") = some true)
    (me3 : PySem.W.kitOne K (.ref C3) (.ref C3) = some true)
    (sf3 : PySem.W.selfFirst K C3 = true)
    (is3 : PySem.W.kitOne K (.type "str") (.ref C3) = some false)
    (aC4 : PySem.W.nsIn K mainGlobals "Desk" = some (some (.ref C4)))
    (pg4 : PySem.W.plainGet K C4 Str.empty = true)
    (hd4 : PySem.W.hasDictIn K C4 = true)
    (po4 : PySem.W.plainOver K C4 = true)
    (sa4 : PySem.W.findIn K (.ref C4) "__setattr__" = some (some (.builtin "object.__setattr__")))
    (mk4 : PySem.W.makesIn K C4 = true)
    (kc4 : PySem.W.keepIn K (.ref C4) = true)
    (n4_0 : PySem.W.findIn K (.ref C4) "rules_now" = some none)
    (n4_1 : PySem.W.findIn K (.ref C4) "rules_ahead" = some none)
    (n4_2 : PySem.W.findIn K (.ref C4) "rules_later" = some none)
    (ha4 : PySem.W.findIn K (.ref C4) "__class__" = some (some (.builtin "object.__class__")))
    (hn4 : PySem.W.specialIn K (.builtin "object.__class__") "__get__" = some (some (.builtin "getset_descriptor.__get__")))
    (htk4 : PySem.W.takesIn K (.builtin "object.__class__") = some true)
    (hmo4 : PySem.W.mroIn K C4 (.type "object") = some true)
    (me4 : PySem.W.kitOne K (.ref C4) (.ref C4) = some true)
    (sf4 : PySem.W.selfFirst K C4 = true)
    (is4 : PySem.W.kitOne K (.type "str") (.ref C4) = some false)
    (nq4 : PySem.W.noSeq K C4 = true)
    (aC33 : PySem.W.nsIn K mainGlobals "BadRules" = some (some (.ref C33)))
    (xL33 : K.lookup C33 = some (PySem.excClassObj nme33 qne33 C33 NAe33 bse33 [.ref CW, .type "Exception", .type "BaseException", .type "object"] true sne33 sube33 abe33 coe33 dde33 x0e33 x1e33 x2e33 x3e33 x5e33 "Exception.__new__"))
    (sa33 : PySem.W.findIn K (.ref C33) "__setattr__" = some (some (.builtin "object.__setattr__")))
    (eC33 : PySem.W.subIn K (.ref C33) (.type "BaseException") = some true)
    (tC33 : PySem.W.typeIn K (.ref C33) = some (.type "type"))
    (kc33 : PySem.W.keepIn K (.ref C33) = true)
    (ga33 : PySem.W.findIn K (.ref C33) "__getattribute__" = some (some (.builtin "BaseException.__getattribute__")))
    (gg33 : PySem.W.findIn K (.ref C33) "__getattr__" = some none)
    (hd33 : PySem.W.hasDictIn K C33 = true)
    (no33 : PySem.W.findIn K (.ref C33) "part" = some none)
    (aC34 : PySem.W.nsIn K mainGlobals "UnknownMark" = some (some (.ref C34)))
    (xL34 : K.lookup C34 = some (PySem.excClassObj nme34 qne34 C34 NAe34 bse34 [.ref CW, .type "Exception", .type "BaseException", .type "object"] true sne34 sube34 abe34 coe34 dde34 x0e34 x1e34 x2e34 x3e34 x5e34 "Exception.__new__"))
    (sa34 : PySem.W.findIn K (.ref C34) "__setattr__" = some (some (.builtin "object.__setattr__")))
    (eC34 : PySem.W.subIn K (.ref C34) (.type "BaseException") = some true)
    (tC34 : PySem.W.typeIn K (.ref C34) = some (.type "type"))
    (kc34 : PySem.W.keepIn K (.ref C34) = true)
    (ga34 : PySem.W.findIn K (.ref C34) "__getattribute__" = some (some (.builtin "BaseException.__getattribute__")))
    (gg34 : PySem.W.findIn K (.ref C34) "__getattr__" = some none)
    (hd34 : PySem.W.hasDictIn K C34 = true)
    (no34 : PySem.W.findIn K (.ref C34) "mark" = some none)
    (aC100 : PySem.W.nsIn K mainGlobals "NothingToUndo" = some (some (.ref C100)))
    (e0100 : PySem.W.excIn K C100 [.type "Exception", .type "BaseException", .type "object"] "Exception.__new__" = true)
    (kc100 : PySem.W.keepIn K (.ref C100) = true)
    (eC100 : PySem.W.subIn K (.ref C100) (.type "BaseException") = some true)
    (tC100 : PySem.W.typeIn K (.ref C100) = some (.type "type"))
    (ga100 : PySem.W.findIn K (.ref C100) "__getattribute__" = some (some (.builtin "BaseException.__getattribute__")))
    (gg100 : PySem.W.findIn K (.ref C100) "__getattr__" = some none)
    (hd100 : PySem.W.hasDictIn K C100 = true)
    (aC101 : PySem.W.nsIn K mainGlobals "NothingToRedo" = some (some (.ref C101)))
    (e0101 : PySem.W.excIn K C101 [.type "Exception", .type "BaseException", .type "object"] "Exception.__new__" = true)
    (kc101 : PySem.W.keepIn K (.ref C101) = true)
    (eC101 : PySem.W.subIn K (.ref C101) (.type "BaseException") = some true)
    (tC101 : PySem.W.typeIn K (.ref C101) = some (.type "type"))
    (ga101 : PySem.W.findIn K (.ref C101) "__getattribute__" = some (some (.builtin "BaseException.__getattribute__")))
    (gg101 : PySem.W.findIn K (.ref C101) "__getattr__" = some none)
    (hd101 : PySem.W.hasDictIn K C101 = true)
    (aC40 : PySem.W.nsIn K mainGlobals "WebError" = some (some (.ref C40)))
    (ik33_40 : PySem.W.kitOne K (.ref C33) (.ref C40) = some true)
    (ik34_40 : PySem.W.kitOne K (.ref C34) (.ref C40) = some true)
    (ik100_40 : PySem.W.kitOne K (.ref C100) (.ref C40) = some true)
    (ik101_40 : PySem.W.kitOne K (.ref C101) (.ref C40) = some true)
    (it3_tuple : PySem.W.kitOne K (.ref C3) (.type "tuple") = some false)
    (ha33 : PySem.W.findIn K (.ref C33) "__class__" = some (some (.builtin "object.__class__")))
    (hn33 : PySem.W.specialIn K (.builtin "object.__class__") "__get__" = some (some (.builtin "getset_descriptor.__get__")))
    (htk33 : PySem.W.takesIn K (.builtin "object.__class__") = some true)
    (hmo33 : PySem.W.mroIn K C33 (.type "object") = some true)
    (ha34 : PySem.W.findIn K (.ref C34) "__class__" = some (some (.builtin "object.__class__")))
    (hn34 : PySem.W.specialIn K (.builtin "object.__class__") "__get__" = some (some (.builtin "getset_descriptor.__get__")))
    (htk34 : PySem.W.takesIn K (.builtin "object.__class__") = some true)
    (hmo34 : PySem.W.mroIn K C34 (.type "object") = some true)
    (ha100 : PySem.W.findIn K (.ref C100) "__class__" = some (some (.builtin "object.__class__")))
    (hn100 : PySem.W.specialIn K (.builtin "object.__class__") "__get__" = some (some (.builtin "getset_descriptor.__get__")))
    (htk100 : PySem.W.takesIn K (.builtin "object.__class__") = some true)
    (hmo100 : PySem.W.mroIn K C100 (.type "object") = some true)
    (ha101 : PySem.W.findIn K (.ref C101) "__class__" = some (some (.builtin "object.__class__")))
    (hn101 : PySem.W.specialIn K (.builtin "object.__class__") "__get__" = some (some (.builtin "getset_descriptor.__get__")))
    (htk101 : PySem.W.takesIn K (.builtin "object.__class__") = some true)
    (hmo101 : PySem.W.mroIn K C101 (.type "object") = some true)
    (xm33_33 : PySem.W.exmOne K (.ref C33) (.ref C33) = some true)
    (xm34_34 : PySem.W.exmOne K (.ref C34) (.ref C34) = some true)
    (xm34_33 : PySem.W.exmOne K (.ref C34) (.ref C33) = some false)
    (xm100_100 : PySem.W.exmOne K (.ref C100) (.ref C100) = some true)
    (xm101_100 : PySem.W.exmOne K (.ref C101) (.ref C100) = some false)
    (xm101_101 : PySem.W.exmOne K (.ref C101) (.ref C101) = some true)
    (aCW : PySem.W.nsIn K mainGlobals "WebError" = some (some (.ref CW)))
    (rdW : PySem.W.readsIn K CW (.type "type") = true)
    (gaW : PySem.W.specialIn K (.ref CW) "__getattribute__" = some (some (.builtin "type.__getattribute__")))
    (inW : PySem.W.findCls K (.ref CW) (.type "type") "__init__" = some (.val (.builtin "Exception.__init__")))
    (a1 : PySem.W.nsIn K mainGlobals "united" = some (some (.ref f1)))
    (F1 : Fun K "united" "united" s_united f1 fd1)
    (a2 : PySem.W.nsIn K mainGlobals "merged" = some (some (.ref f2)))
    (F2 : Fun K "merged" "merged" s_merged f2 fd2)
    (a3 : PySem.W.nsIn K mainGlobals "is_atom" = some (some (.ref f3)))
    (F3 : Fun K "is_atom" "is_atom" s_is_atom f3 fd3)
    (a4 : PySem.W.findIn K (.ref C0) "__init__" = some (some (.ref f4)))
    (i4 : PySem.W.isFn K (.ref f4) = true)
    (F4 : Fun K "__init__" "Formula.__init__" s_Formula___init__ f4 fd4)
    (k4 : PySem.W.keepIn K (.ref f4) = true)
    (a5 : PySem.W.nsIn K mainGlobals "as_formula" = some (some (.ref f5)))
    (F5 : Fun K "as_formula" "as_formula" s_as_formula f5 fd5)
    (a6 : PySem.W.findIn K (.ref C0) "__str__" = some (some (.ref f6)))
    (i6 : PySem.W.isFn K (.ref f6) = true)
    (F6 : Fun K "__str__" "Formula.__str__" s_Formula___str__ f6 fd6)
    (k6 : PySem.W.keepIn K (.ref f6) = true)
    (a7 : PySem.W.findIn K (.ref C0) "__eq__" = some (some (.ref f7)))
    (i7 : PySem.W.isFn K (.ref f7) = true)
    (F7 : Fun K "__eq__" "Formula.__eq__" s_Formula___eq__ f7 fd7)
    (k7 : PySem.W.keepIn K (.ref f7) = true)
    (a8 : PySem.W.nsIn K mainGlobals "is_mark" = some (some (.ref f8)))
    (F8 : Fun K "is_mark" "is_mark" s_is_mark f8 fd8)
    (a9 : PySem.W.nsIn K mainGlobals "is_rule" = some (some (.ref f9)))
    (F9 : Fun K "is_rule" "is_rule" s_is_rule f9 fd9)
    (a10 : PySem.W.nsIn K mainGlobals "check_rows" = some (some (.ref f10)))
    (F10 : Fun K "check_rows" "check_rows" s_check_rows f10 fd10)
    (a11 : PySem.W.findIn K (.ref C3) "__init__" = some (some (.ref f11)))
    (i11 : PySem.W.isFn K (.ref f11) = true)
    (F11 : Fun K "__init__" "Rules.__init__" s_Rules___init__ f11 fd11)
    (k11 : PySem.W.keepIn K (.ref f11) = true)
    (a12 : PySem.W.findIn K (.ref C3) "marks" = some (some (.ref pA12)))
    (pg_12 : PySem.W.specialIn K (.ref pA12) "__get__" = some (some (.builtin "property.__get__")))
    (pt_12 : PySem.W.takesIn K (.ref pA12) = some true)
    (pr_12 : PySem.W.recIn K pA12 "property" = some (.ref f12 :: pR12))
    (F12 : Fun K "marks" "Rules.marks" s_Rules_marks f12 fd12)
    (a13 : PySem.W.findIn K (.ref C3) "__getitem__" = some (some (.ref f13)))
    (i13 : PySem.W.isFn K (.ref f13) = true)
    (F13 : Fun K "__getitem__" "Rules.__getitem__" s_Rules___getitem__ f13 fd13)
    (k13 : PySem.W.keepIn K (.ref f13) = true)
    (a14 : PySem.W.findIn K (.ref C33) "__init__" = some (some (.ref f14)))
    (i14 : PySem.W.typeIn K (.ref f14) = some (.type "function"))
    (F14 : Fun K "__init__" "BadRules.__init__" s_BadRules___init__ f14 fd14)
    (a15 : PySem.W.nsIn K mainGlobals "check_rows" = some (some (.ref f15)))
    (F15 : Fun K "check_rows" "check_rows" s_check_rows f15 fd15)
    (a16 : PySem.W.findIn K (.ref C3) "__init__" = some (some (.ref f16)))
    (i16 : PySem.W.isFn K (.ref f16) = true)
    (F16 : Fun K "__init__" "Rules.__init__" s_Rules___init__ f16 fd16)
    (k16 : PySem.W.keepIn K (.ref f16) = true)
    (a17 : PySem.W.nsIn K mainGlobals "rows_by" = some (some (.ref f17)))
    (F17 : Fun K "rows_by" "rows_by" s_rows_by f17 fd17)
    (a18 : PySem.W.findIn K (.ref C3) "__len__" = some (some (.ref f18)))
    (i18 : PySem.W.isFn K (.ref f18) = true)
    (F18 : Fun K "__len__" "Rules.__len__" s_Rules___len__ f18 fd18)
    (k18 : PySem.W.keepIn K (.ref f18) = true)
    (a19 : PySem.W.findIn K (.ref C34) "__init__" = some (some (.ref f19)))
    (i19 : PySem.W.typeIn K (.ref f19) = some (.type "function"))
    (F19 : Fun K "__init__" "UnknownMark.__init__" s_UnknownMark___init__ f19 fd19)
    (a20 : PySem.W.findIn K (.ref C4) "__init__" = some (some (.ref f20)))
    (i20 : PySem.W.isFn K (.ref f20) = true)
    (F20 : Fun K "__init__" "Desk.__init__" s_Desk___init__ f20 fd20)
    (k20 : PySem.W.keepIn K (.ref f20) = true)
    (a21 : PySem.W.findIn K (.ref C4) "rules" = some (some (.ref pA21)))
    (pg_21 : PySem.W.specialIn K (.ref pA21) "__get__" = some (some (.builtin "property.__get__")))
    (pt_21 : PySem.W.takesIn K (.ref pA21) = some true)
    (pr_21 : PySem.W.recIn K pA21 "property" = some (.ref f21 :: pR21))
    (F21 : Fun K "rules" "Desk.rules" s_Desk_rules f21 fd21)
    (a22 : PySem.W.findIn K (.ref C4) "__len__" = some (some (.ref f22)))
    (i22 : PySem.W.isFn K (.ref f22) = true)
    (F22 : Fun K "__len__" "Desk.__len__" s_Desk___len__ f22 fd22)
    (k22 : PySem.W.keepIn K (.ref f22) = true)
    (a23 : PySem.W.findIn K (.ref C4) "change_to" = some (some (.ref f23)))
    (i23 : PySem.W.isFn K (.ref f23) = true)
    (F23 : Fun K "change_to" "Desk.change_to" s_Desk_change_to f23 fd23)
    (k23 : PySem.W.keepIn K (.ref f23) = true)
    (a24 : PySem.W.findIn K (.ref C4) "__getitem__" = some (some (.ref f24)))
    (i24 : PySem.W.isFn K (.ref f24) = true)
    (F24 : Fun K "__getitem__" "Desk.__getitem__" s_Desk___getitem__ f24 fd24)
    (k24 : PySem.W.keepIn K (.ref f24) = true)
    (a25 : PySem.W.findIn K (.ref C4) "lay" = some (some (.ref f25)))
    (i25 : PySem.W.isFn K (.ref f25) = true)
    (F25 : Fun K "lay" "Desk.lay" s_Desk_lay f25 fd25)
    (k25 : PySem.W.keepIn K (.ref f25) = true)
    (a26 : PySem.W.findIn K (.ref C4) "__setitem__" = some (some (.ref f26)))
    (i26 : PySem.W.isFn K (.ref f26) = true)
    (F26 : Fun K "__setitem__" "Desk.__setitem__" s_Desk___setitem__ f26 fd26)
    (k26 : PySem.W.keepIn K (.ref f26) = true)
    (a27 : PySem.W.findIn K (.ref C4) "take_out" = some (some (.ref f27)))
    (i27 : PySem.W.isFn K (.ref f27) = true)
    (F27 : Fun K "take_out" "Desk.take_out" s_Desk_take_out f27 fd27)
    (k27 : PySem.W.keepIn K (.ref f27) = true)
    (a28 : PySem.W.findIn K (.ref C4) "undo" = some (some (.ref f28)))
    (i28 : PySem.W.isFn K (.ref f28) = true)
    (F28 : Fun K "undo" "Desk.undo" s_Desk_undo f28 fd28)
    (k28 : PySem.W.keepIn K (.ref f28) = true)
    (a29 : PySem.W.findIn K (.ref C4) "redo" = some (some (.ref f29)))
    (i29 : PySem.W.isFn K (.ref f29) = true)
    (F29 : Fun K "redo" "Desk.redo" s_Desk_redo f29 fd29)
    (k29 : PySem.W.keepIn K (.ref f29) = true)
    (a30 : PySem.W.findIn K (.ref C4) "__init__" = some (some (.ref f30)))
    (i30 : PySem.W.isFn K (.ref f30) = true)
    (F30 : Fun K "__init__" "Desk.__init__" s_Desk___init__ f30 fd30)
    (k30 : PySem.W.keepIn K (.ref f30) = true)
    (a31 : PySem.W.nsIn K mainGlobals "_law_deck" = some (some (.ref f31)))
    (F31 : Fun K "_law_deck" "_law_deck" s_law_deck f31 fd31)
    (a32 : PySem.W.nsIn K mainGlobals "_law_draw" = some (some (.ref f32)))
    (F32 : Fun K "_law_draw" "_law_draw" s_law_draw f32 fd32)
    (a33 : PySem.W.nsIn K mainGlobals "_law_pick" = some (some (.ref f33)))
    (F33 : Fun K "_law_pick" "_law_pick" s_law_pick f33 fd33)
    (a34 : PySem.W.nsIn K mainGlobals "_law_formula" = some (some (.ref f34)))
    (F34 : Fun K "_law_formula" "_law_formula" s_law_formula f34 fd34)
    (a35 : PySem.W.nsIn K mainGlobals "_law_tree" = some (some (.ref f35)))
    (F35 : Fun K "_law_tree" "_law_tree" s_law_tree f35 fd35)
    (a36 : PySem.W.nsIn K mainGlobals "_law_form" = some (some (.ref f36)))
    (F36 : Fun K "_law_form" "_law_form" s_law_form f36 fd36)
    (a37 : PySem.W.nsIn K mainGlobals "_law_rows" = some (some (.ref f37)))
    (F37 : Fun K "_law_rows" "_law_rows" s_law_rows f37 fd37)
    (a38 : PySem.W.nsIn K mainGlobals "_law_begun" = some (some (.ref f38)))
    (F38 : Fun K "_law_begun" "_law_begun" s_law_begun f38 fd38)
    (a39 : PySem.W.nsIn K mainGlobals "_law_is_shown" = some (some (.ref f39)))
    (F39 : Fun K "_law_is_shown" "_law_is_shown" s_law_is_shown f39 fd39)
    (a40 : PySem.W.nsIn K mainGlobals "_law_value" = some (some (.ref f40)))
    (F40 : Fun K "_law_value" "_law_value" s_law_value f40 fd40)
    (a41 : PySem.W.nsIn K mainGlobals "_law_is_kept" = some (some (.ref f41)))
    (F41 : Fun K "_law_is_kept" "_law_is_kept" s_law_is_kept f41 fd41)
    (a42 : PySem.W.nsIn K mainGlobals "_law_back" = some (some (.ref f42)))
    (F42 : Fun K "_law_back" "_law_back" s_law_back f42 fd42)
    (a43 : PySem.W.nsIn K mainGlobals "_law_turned" = some (some (.ref f43)))
    (F43 : Fun K "_law_turned" "_law_turned" s_law_turned f43 fd43)
    (a44 : PySem.W.nsIn K mainGlobals "_law_changed" = some (some (.ref f44)))
    (F44 : Fun K "_law_changed" "_law_changed" s_law_changed f44 fd44)
    (a45 : PySem.W.nsIn K mainGlobals "_law_all_right" = some (some (.ref f45)))
    (F45 : Fun K "_law_all_right" "_law_all_right" s_law_all_right f45 fd45)
    (a46 : PySem.W.nsIn K mainGlobals "_law_right" = some (some (.ref f46)))
    (F46 : Fun K "_law_right" "_law_right" s_law_right f46 fd46)
    (a47 : PySem.W.nsIn K mainGlobals "_law_far_right" = some (some (.ref f47)))
    (F47 : Fun K "_law_far_right" "_law_far_right" s_law_far_right f47 fd47)
    (a48 : PySem.W.nsIn K mainGlobals "law" = some (some (.ref f48)))
    (F48 : Fun K "law" "law" s_law f48 fd48) :
    FnG P w K mg base 30 fa (spTop K) := by
  let cl : Nat → Addr := fun i => if i = 0 then C0 else if i = 3 then C3 else if i = 4 then C4 else if i = 33 then C33 else if i = 34 then C34 else if i = 100 then C100 else if i = 101 then C101 else C40
  have B : Blt mg := ⟨PySem.W.mg_none_of X G z0, PySem.W.mg_none_of X G z1, PySem.W.mg_none_of X G z2, PySem.W.mg_none_of X G z3, PySem.W.mg_none_of X G z4, PySem.W.mg_none_of X G z5, PySem.W.mg_none_of X G z6, PySem.W.mg_none_of X G z7, PySem.W.mg_none_of X G z8, PySem.W.mg_none_of X G z9, PySem.W.mg_none_of X G z10, PySem.W.mg_none_of X G z11, PySem.W.mg_none_of X G z12, PySem.W.mg_none_of X G z13, PySem.W.mg_none_of X G z14, PySem.W.mg_none_of X G z15, PySem.W.mg_none_of X G z16, PySem.W.mg_none_of X G z17, PySem.W.mg_none_of X G z18, PySem.W.mg_none_of X G z19, PySem.W.mg_none_of X G z20⟩
  have cz0 : CZ K C0 fmNames := ⟨⟨pg0, hd0, po0, sa0⟩, fun n hn => by
    simp only [fmNames, List.mem_cons, List.not_mem_nil, or_false] at hn
    rcases hn with e | e | e | e | e | e | e | e
    · rw [e]; exact n0_0
    · rw [e]; exact n0_1
    · rw [e]; exact n0_2
    · rw [e]; exact n0_3
    · rw [e]; exact n0_4
    · rw [e]; exact n0_5
    · rw [e]; exact n0_6
    · rw [e]; exact n0_7, ⟨⟨pg0, hd0, po0, sa0⟩, ha0, hn0, htk0, hmo0, me0⟩, sf0, is0⟩
  have cz3 : CZ K C3 rlNames := ⟨⟨pg3, hd3, po3, sa3⟩, fun n hn => by
    simp only [rlNames, List.mem_cons, List.not_mem_nil, or_false] at hn
    rcases hn with e | e
    · rw [e]; exact n3_0
    · rw [e]; exact n3_1, ⟨⟨pg3, hd3, po3, sa3⟩, ha3, hn3, htk3, hmo3, me3⟩, sf3, is3⟩
  have cz4 : CZ K C4 deNames := ⟨⟨pg4, hd4, po4, sa4⟩, fun n hn => by
    simp only [deNames, List.mem_cons, List.not_mem_nil, or_false] at hn
    rcases hn with e | e | e
    · rw [e]; exact n4_0
    · rw [e]; exact n4_1
    · rw [e]; exact n4_2, ⟨⟨pg4, hd4, po4, sa4⟩, ha4, hn4, htk4, hmo4, me4⟩, sf4, is4⟩
  have ec33 : ErC K C33 "part" := ⟨⟨⟨_, _, _, _, _, _, _, _, _, _, _, _, _, _, _, xL33, rfl⟩, sa33, eC33, tC33, kc33⟩, ⟨ga33, gg33, eC33, hd33⟩, no33⟩
  have ec34 : ErC K C34 "mark" := ⟨⟨⟨_, _, _, _, _, _, _, _, _, _, _, _, _, _, _, xL34, rfl⟩, sa34, eC34, tC34, kc34⟩, ⟨ga34, gg34, eC34, hd34⟩, no34⟩
  have bw : BaseX K CW := ⟨⟨rdW, gaW⟩, inW⟩
  have gw := PySem.W.mg_of X G aCW
  have Z : ZZ K w mg cl := ⟨⟨_, PySem.W.mg_of X G s0, _, rfl⟩, ⟨_, PySem.W.mg_of X G s1, _, rfl⟩, ⟨_, PySem.W.mg_of X G s2, _, rfl⟩, ⟨_, PySem.W.mg_of X G s3, _, rfl⟩, ⟨_, PySem.W.mg_of X G s4, _, rfl⟩, dd5, es5, en5, PySem.W.mg_of X G aP5, ⟨lP5, lit5, low5⟩, ⟨_, p5_0⟩, ⟨_, p5_1⟩, ⟨_, p5_2⟩, ⟨_, p5_3⟩, ⟨_, PySem.W.mg_of X G s6, _, rfl⟩, ⟨_, PySem.W.mg_of X G s7, _, rfl⟩, ⟨_, PySem.W.mg_of X G s8, _, rfl⟩, ⟨_, PySem.W.mg_of X G s9, _, rfl⟩, ⟨_, PySem.W.mg_of X G s10, _, rfl⟩, ⟨_, PySem.W.mg_of X G s11, _, rfl⟩, ⟨_, PySem.W.mg_of X G s12, _, rfl⟩, PySem.W.mg_of X G aC0, cz0, ⟨ne0, hmo0⟩, ⟨qn0_0, qn0_1, qn0_2, qn0_3, qn0_4, qn0_5⟩, PySem.W.mg_of X G aC3, cz3, PySem.W.mg_of X G aC4, cz4, nq4, PySem.W.mg_of X G aC33, ec33, PySem.W.mg_of X G aC34, ec34, PySem.W.mg_of X G aC100, ⟨PySem.W.mg_of X G aC100, e0100, kc100, eC100, tC100⟩, PySem.W.mg_of X G aC101, ⟨PySem.W.mg_of X G aC101, e0101, kc101, eC101, tC101⟩, xm33_33, xm34_34, xm34_33, xm100_100, xm101_100, xm101_101, PySem.W.mg_of X G aC40, ik33_40, ik34_40, ik100_40, ik101_40, it3_tuple, ⟨ga33, gg33, eC33, hd33, ha33, hn33, htk33, hmo33⟩, ⟨ga34, gg34, eC34, hd34, ha34, hn34, htk34, hmo34⟩, ⟨ga100, gg100, eC100, hd100, ha100, hn100, htk100, hmo100⟩, ⟨ga101, gg101, eC101, hd101, ha101, hn101, htk101, hmo101⟩⟩
  have q_c_united := c_united (P := P) (base := base) (cl := cl) (PySem.W.mg_of X G a1) B Z F1 
  have q_c_merged := c_merged (P := P) (base := base) (cl := cl) (PySem.W.mg_of X G a2) B Z F2 
  have q_c_is_atom := c_is_atom (P := P) (base := base) (cl := cl) (PySem.W.mg_of X G a3) B Z F3 
  have q_m_Formula := m_Formula (P := P) (base := base) (cl := cl) ⟨mk0, a4, i4, kc0⟩ B Z F4 q_c_united q_c_merged q_c_is_atom
  have q_c_as_formula := c_as_formula (P := P) (base := base) (cl := cl) (PySem.W.mg_of X G a5) B Z F5 q_c_is_atom q_m_Formula
  have q_o_str := o_str (P := P) (base := base) (cl := cl) ⟨a6, i6⟩ B Z F6 
  have q_o_eq := o_eq (P := P) (base := base) (cl := cl) ⟨a7, i7⟩ B Z F7 
  have q_c_is_mark := c_is_mark (P := P) (base := base) (cl := cl) (PySem.W.mg_of X G a8) B Z F8 q_c_is_atom
  have q_c_is_rule := c_is_rule (P := P) (base := base) (cl := cl) (PySem.W.mg_of X G a9) B Z F9 q_c_is_mark q_c_is_atom
  have q_c_check_rows := c_check_rows (P := P) (base := base) (cl := cl) (PySem.W.mg_of X G a10) B Z F10 q_c_is_rule q_c_as_formula
  have q_m_Rules := m_Rules (P := P) (base := base) (cl := cl) ⟨mk3, a11, i11, kc3⟩ B Z F11 q_c_check_rows q_c_as_formula
  have q_p_marks3 := p_marks3 (P := P) (base := base) (cl := cl) ⟨a12, pg_12, pt_12, ⟨_, pr_12⟩⟩ B Z F12 
  have q_o_getitem3 := o_getitem3 (P := P) (base := base) (cl := cl) ⟨a13, i13⟩ B Z F13 q_c_is_mark
  have q_e_BadRules := e_BadRules (P := P) (base := base) (cl := cl) a14 i14 bw gw Z F14
  have q_cx_check_rows := cx_check_rows (P := P) (base := base) (cl := cl) (PySem.W.mg_of X G a15) B Z F15 q_c_is_rule q_c_as_formula q_e_BadRules
  have q_mx_Rules := mx_Rules (P := P) (base := base) (cl := cl) ⟨mk3, a16, i16, kc3⟩ B Z F16 q_cx_check_rows q_c_as_formula
  have q_c_rows_by := c_rows_by (P := P) (base := base) (cl := cl) (PySem.W.mg_of X G a17) B Z F17 
  have q_o_len3 := o_len3 (P := P) (base := base) (cl := cl) ⟨a18, i18⟩ B Z F18 
  have q_e_UnknownMark := e_UnknownMark (P := P) (base := base) (cl := cl) a19 i19 bw gw Z F19
  have q_m_Desk := m_Desk (P := P) (base := base) (cl := cl) ⟨mk4, a20, i20, kc4⟩ B Z F20 
  have q_p_rules4 := p_rules4 (P := P) (base := base) (cl := cl) ⟨a21, pg_21, pt_21, ⟨_, pr_21⟩⟩ B Z F21 
  have q_o_len4 := o_len4 (P := P) (base := base) (cl := cl) ⟨a22, i22⟩ B Z F22 q_o_len3
  have q_mw_change_to4 := mw_change_to4 (P := P) (base := base) (cl := cl) ⟨a23, i23, k23⟩ B Z F23 q_mx_Rules q_c_rows_by
  have q_o_getitem4 := o_getitem4 (P := P) (base := base) (cl := cl) ⟨a24, i24⟩ B Z F24 q_o_getitem3
  have q_mw_lay4 := mw_lay4 (P := P) (base := base) (cl := cl) ⟨a25, i25, k25⟩ B Z F25 q_c_is_rule q_e_BadRules q_mw_change_to4
  have q_ow_setitem4 := ow_setitem4 (P := P) (base := base) (cl := cl) ⟨a26, i26⟩ B Z F26 q_mw_lay4
  have q_mw_take_out4 := mw_take_out4 (P := P) (base := base) (cl := cl) ⟨a27, i27, k27⟩ B Z F27 q_c_is_mark q_e_UnknownMark q_mw_change_to4
  have q_mw_undo4 := mw_undo4 (P := P) (base := base) (cl := cl) ⟨a28, i28, k28⟩ B Z F28 
  have q_mw_redo4 := mw_redo4 (P := P) (base := base) (cl := cl) ⟨a29, i29, k29⟩ B Z F29 
  have q_mx_Desk := mx_Desk (P := P) (base := base) (cl := cl) ⟨mk4, a30, i30, kc4⟩ B Z F30 
  have q_c_law_deck := c_law_deck (P := P) (base := base) (cl := cl) (PySem.W.mg_of X G a31) B Z F31 
  have q_c_law_draw := c_law_draw (P := P) (base := base) (cl := cl) (PySem.W.mg_of X G a32) B Z F32 
  have q_c_law_pick := c_law_pick (P := P) (base := base) (cl := cl) (PySem.W.mg_of X G a33) B Z F33 q_c_law_draw
  have q_c_law_formula := c_law_formula (P := P) (base := base) (cl := cl) (PySem.W.mg_of X G a34) B Z F34 q_m_Formula
  have q_c_law_tree := c_law_tree (P := P) (base := base) (cl := cl) (PySem.W.mg_of X G a35) B Z F35 q_c_law_draw q_c_law_pick
  have q_c_law_form := c_law_form (P := P) (base := base) (cl := cl) (PySem.W.mg_of X G a36) B Z F36 q_c_law_pick (q_c_law_tree 3)
  have q_c_law_rows := c_law_rows (P := P) (base := base) (cl := cl) (PySem.W.mg_of X G a37) B Z F37 (q_c_law_formula 20)
  have q_c_law_begun := c_law_begun (P := P) (base := base) (cl := cl) (PySem.W.mg_of X G a38) B Z F38 q_c_law_pick q_c_law_form q_c_law_rows q_m_Rules q_m_Desk
  have q_c_law_is_shown := c_law_is_shown (P := P) (base := base) (cl := cl) (PySem.W.mg_of X G a39) B Z F39 q_c_law_rows (q_c_law_formula 20) q_p_rules4 q_o_len4 q_o_getitem4 q_p_marks3 q_o_eq
  have q_c_law_value := c_law_value (P := P) (base := base) (cl := cl) (PySem.W.mg_of X G a40) B Z F40 q_c_law_draw q_c_law_pick q_c_law_form (q_c_law_formula 20)
  have q_c_law_is_kept := c_law_is_kept (P := P) (base := base) (cl := cl) (PySem.W.mg_of X G a41) B Z F41 q_c_law_rows q_p_rules4 q_o_eq
  have q_c_law_back := c_law_back (P := P) (base := base) (cl := cl) (PySem.W.mg_of X G a42) B Z F42 q_mw_undo4 q_mw_redo4
  have q_c_law_turned := c_law_turned (P := P) (base := base) (cl := cl) (PySem.W.mg_of X G a43) B Z F43 
  have q_c_law_changed := c_law_changed (P := P) (base := base) (cl := cl) (PySem.W.mg_of X G a44) B Z F44 q_c_law_draw q_c_law_pick q_c_law_value (q_c_law_formula 20) q_ow_setitem4 q_mw_take_out4
  have q_c_law_all_right := c_law_all_right (P := P) (base := base) (cl := cl) (PySem.W.mg_of X G a45) B Z F45 q_c_law_turned q_c_law_back q_c_law_is_kept q_c_law_is_shown
  have q_c_law_right := c_law_right (P := P) (base := base) (cl := cl) (PySem.W.mg_of X G a46) B Z F46 q_c_law_draw q_c_law_begun q_c_law_changed q_c_law_back q_c_law_turned q_c_law_is_kept q_c_law_all_right
  have q_c_law_far_right := c_law_far_right (P := P) (base := base) (cl := cl) (PySem.W.mg_of X G a47) B Z F47 (q_c_law_formula 20) q_c_law_back q_mx_Desk q_ow_setitem4 q_mw_undo4 q_mw_redo4 q_m_Rules q_p_rules4 q_o_len4 q_o_getitem4 q_o_str q_o_eq
  have q_c_law := c_law (P := P) (base := base) (cl := cl) (PySem.W.mg_of X G a48) B Z F48 q_c_law_deck q_c_law_right q_c_law_far_right
  obtain ⟨f, hf, hm, _⟩ := q_c_law.ex
  have e := hfa.symm.trans hm
  cases e
  exact fun A outer s H us vs Q hg hr e0 r hsp => hf A outer s H us vs Q hg hr e0 r (top_sp hsp)
end N
set_option Elab.async false
set_option linter.all false
set_option maxRecDepth 100000
set_option maxHeartbeats 0
namespace N
open PySem PySem.Spec PyProof.Rows L2
theorem facts {P : Program} {w : World} {K : Fg} {h base : Heap} {mg : Str → Option Value} {fa : Addr} (X : K.In h) (G : h.Ns mainGlobals mg) (hfa : mg "law" = some (.ref fa)) (c : SaysT tsts dTs dcs w K) :
    FnG P w K mg base 30 fa (spTop K) := by
  have ht0 := c.test 0 (t := tst0) rfl
  simp only [tst0, Bool.and_eq_true, decide_eq_true_eq] at ht0
  obtain ⟨z0, z1, z2, z3, z4, z5, z6, z7⟩ := ht0
  have ht1 := c.test 1 (t := tst1) rfl
  simp only [tst1, Bool.and_eq_true, decide_eq_true_eq] at ht1
  obtain ⟨z8, z9, z10, z11, z12, z13, z14, z15⟩ := ht1
  have ht2 := c.test 2 (t := tst2) rfl
  simp only [tst2, Bool.and_eq_true, decide_eq_true_eq] at ht2
  obtain ⟨z16, z17, z18, z19, z20, s0, s1, s2⟩ := ht2
  obtain ⟨_, s0⟩ := isStrG_ok s0
  obtain ⟨_, s1⟩ := isStrG_ok s1
  obtain ⟨_, s2⟩ := isStrG_ok s2
  have ht3 := c.test 3 (t := tst3) rfl
  simp only [tst3, Bool.and_eq_true, decide_eq_true_eq] at ht3
  obtain ⟨s3, s4, aP5, dlP5, low5, p5_0, p5_1, p5_2⟩ := ht3
  obtain ⟨_, s3⟩ := isStrG_ok s3
  obtain ⟨_, s4⟩ := isStrG_ok s4
  obtain ⟨_, p5_0⟩ := isIntIn_ok p5_0
  obtain ⟨_, p5_1⟩ := isIntIn_ok p5_1
  obtain ⟨_, p5_2⟩ := isIntIn_ok p5_2
  have ht4 := c.test 4 (t := tst4) rfl
  simp only [tst4, Bool.and_eq_true, decide_eq_true_eq] at ht4
  obtain ⟨p5_3, s6, s7, s8, s9, s10, s11, s12⟩ := ht4
  obtain ⟨_, p5_3⟩ := isIntIn_ok p5_3
  obtain ⟨_, s6⟩ := isStrG_ok s6
  obtain ⟨_, s7⟩ := isStrG_ok s7
  obtain ⟨_, s8⟩ := isIntIn_ok s8
  obtain ⟨_, s9⟩ := isIntIn_ok s9
  obtain ⟨_, s10⟩ := isStrG_ok s10
  obtain ⟨_, s11⟩ := isStrG_ok s11
  obtain ⟨_, s12⟩ := isStrG_ok s12
  have ht5 := c.test 5 (t := tst5) rfl
  simp only [tst5, Bool.and_eq_true, decide_eq_true_eq] at ht5
  obtain ⟨aC0, pg0, hd0, po0, sa0, mk0, kc0, n0_0⟩ := ht5
  have ht6 := c.test 6 (t := tst6) rfl
  simp only [tst6, Bool.and_eq_true, decide_eq_true_eq] at ht6
  obtain ⟨n0_1, n0_2, n0_3, n0_4, n0_5, n0_6, n0_7, ha0⟩ := ht6
  have ht7 := c.test 7 (t := tst7) rfl
  simp only [tst7, Bool.and_eq_true, decide_eq_true_eq] at ht7
  obtain ⟨hn0, htk0, hmo0, me0, sf0, is0, ne0, qn0_0⟩ := ht7
  have ht8 := c.test 8 (t := tst8) rfl
  simp only [tst8, Bool.and_eq_true, decide_eq_true_eq] at ht8
  obtain ⟨qn0_1, qn0_2, qn0_3, qn0_4, qn0_5, aC3, pg3, hd3⟩ := ht8
  have ht9 := c.test 9 (t := tst9) rfl
  simp only [tst9, Bool.and_eq_true, decide_eq_true_eq] at ht9
  obtain ⟨po3, sa3, mk3, kc3, n3_0, n3_1, ha3, hn3⟩ := ht9
  have ht10 := c.test 10 (t := tst10) rfl
  simp only [tst10, Bool.and_eq_true, decide_eq_true_eq] at ht10
  obtain ⟨htk3, hmo3, me3, sf3, is3, aC4, pg4, hd4⟩ := ht10
  have ht11 := c.test 11 (t := tst11) rfl
  simp only [tst11, Bool.and_eq_true, decide_eq_true_eq] at ht11
  obtain ⟨po4, sa4, mk4, kc4, n4_0, n4_1, n4_2, ha4⟩ := ht11
  have ht12 := c.test 12 (t := tst12) rfl
  simp only [tst12, Bool.and_eq_true, decide_eq_true_eq] at ht12
  obtain ⟨hn4, htk4, hmo4, me4, sf4, is4, nq4, aC33⟩ := ht12
  have ht13 := c.test 13 (t := tst13) rfl
  simp only [tst13, Bool.and_eq_true, decide_eq_true_eq] at ht13
  obtain ⟨xL33, sa33, eC33, tC33, kc33, ga33, gg33, hd33⟩ := ht13
  obtain ⟨_, _, _, _, _, _, _, _, _, _, _, _, _, _, xL33⟩ := isExc_ok xL33
  have ht14 := c.test 14 (t := tst14) rfl
  simp only [tst14, Bool.and_eq_true, decide_eq_true_eq] at ht14
  obtain ⟨no33, aC34, xL34, sa34, eC34, tC34, kc34, ga34⟩ := ht14
  obtain ⟨_, _, _, _, _, _, _, _, _, _, _, _, _, _, xL34⟩ := isExc_ok xL34
  have ht15 := c.test 15 (t := tst15) rfl
  simp only [tst15, Bool.and_eq_true, decide_eq_true_eq] at ht15
  obtain ⟨gg34, hd34, no34, aC100, e0100, kc100, eC100, tC100⟩ := ht15
  have ht16 := c.test 16 (t := tst16) rfl
  simp only [tst16, Bool.and_eq_true, decide_eq_true_eq] at ht16
  obtain ⟨ga100, gg100, hd100, aC101, e0101, kc101, eC101, tC101⟩ := ht16
  have ht17 := c.test 17 (t := tst17) rfl
  simp only [tst17, Bool.and_eq_true, decide_eq_true_eq] at ht17
  obtain ⟨ga101, gg101, hd101, aC40, ik33_40, ik34_40, ik100_40, ik101_40⟩ := ht17
  have ht18 := c.test 18 (t := tst18) rfl
  simp only [tst18, Bool.and_eq_true, decide_eq_true_eq] at ht18
  obtain ⟨it3_tuple, ha33, hn33, htk33, hmo33, ha34, hn34, htk34⟩ := ht18
  have ht19 := c.test 19 (t := tst19) rfl
  simp only [tst19, Bool.and_eq_true, decide_eq_true_eq] at ht19
  obtain ⟨hmo34, ha100, hn100, htk100, hmo100, ha101, hn101, htk101⟩ := ht19
  have ht20 := c.test 20 (t := tst20) rfl
  simp only [tst20, Bool.and_eq_true, decide_eq_true_eq] at ht20
  obtain ⟨hmo101, xm33_33, xm34_34, xm34_33, xm100_100, xm101_100, xm101_101, aCW⟩ := ht20
  have ht21 := c.test 21 (t := tst21) rfl
  simp only [tst21, Bool.and_eq_true, decide_eq_true_eq] at ht21
  obtain ⟨rdW, gaW, inW, a1, a2, a3, a4, i4⟩ := ht21
  have inW := isVal_ok inW
  have ht22 := c.test 22 (t := tst22) rfl
  simp only [tst22, Bool.and_eq_true, decide_eq_true_eq] at ht22
  obtain ⟨k4, a5, a6, i6, k6, a7, i7, k7⟩ := ht22
  have ht23 := c.test 23 (t := tst23) rfl
  simp only [tst23, Bool.and_eq_true, decide_eq_true_eq] at ht23
  obtain ⟨a8, a9, a10, a11, i11, k11, a12, pg_12⟩ := ht23
  have ht24 := c.test 24 (t := tst24) rfl
  simp only [tst24, Bool.and_eq_true, decide_eq_true_eq] at ht24
  obtain ⟨pt_12, pr_12, a13, i13, k13, a14, i14, a15⟩ := ht24
  have ht25 := c.test 25 (t := tst25) rfl
  simp only [tst25, Bool.and_eq_true, decide_eq_true_eq] at ht25
  obtain ⟨a16, i16, k16, a17, a18, i18, k18, a19⟩ := ht25
  have ht26 := c.test 26 (t := tst26) rfl
  simp only [tst26, Bool.and_eq_true, decide_eq_true_eq] at ht26
  obtain ⟨i19, a20, i20, k20, a21, pg_21, pt_21, pr_21⟩ := ht26
  have ht27 := c.test 27 (t := tst27) rfl
  simp only [tst27, Bool.and_eq_true, decide_eq_true_eq] at ht27
  obtain ⟨a22, i22, k22, a23, i23, k23, a24, i24⟩ := ht27
  have ht28 := c.test 28 (t := tst28) rfl
  simp only [tst28, Bool.and_eq_true, decide_eq_true_eq] at ht28
  obtain ⟨k24, a25, i25, k25, a26, i26, k26, a27⟩ := ht28
  have ht29 := c.test 29 (t := tst29) rfl
  simp only [tst29, Bool.and_eq_true, decide_eq_true_eq] at ht29
  obtain ⟨i27, k27, a28, i28, k28, a29, i29, k29⟩ := ht29
  have ht30 := c.test 30 (t := tst30) rfl
  simp only [tst30, Bool.and_eq_true, decide_eq_true_eq] at ht30
  obtain ⟨a30, i30, k30, a31, a32, a33, a34, a35⟩ := ht30
  have ht31 := c.test 31 (t := tst31) rfl
  simp only [tst31, Bool.and_eq_true, decide_eq_true_eq] at ht31
  obtain ⟨a36, a37, a38, a39, a40, a41, a42, a43⟩ := ht31
  have ht32 := c.test 32 (t := tst32) rfl
  simp only [tst32, Bool.and_eq_true, decide_eq_true_eq] at ht32
  obtain ⟨a44, a45, a46, a47, a48⟩ := ht32
  obtain ⟨_, _, lP5, lit5⟩ := c.dic 0 (d := ⟨fun K => (gA K "PARTS_OF"), ["atom", "no", "if", "all"]⟩) rfl dlP5
  obtain ⟨_, F1⟩ := c.fun_ 0 (d := dT1) rfl rfl
  obtain ⟨_, F2⟩ := c.fun_ 1 (d := dT2) rfl rfl
  obtain ⟨_, F3⟩ := c.fun_ 2 (d := dT3) rfl rfl
  obtain ⟨_, F4⟩ := c.fun_ 3 (d := dT4) rfl rfl
  obtain ⟨_, F5⟩ := c.fun_ 4 (d := dT5) rfl rfl
  obtain ⟨_, F6⟩ := c.fun_ 5 (d := dT6) rfl rfl
  obtain ⟨_, F7⟩ := c.fun_ 6 (d := dT7) rfl rfl
  obtain ⟨_, F8⟩ := c.fun_ 7 (d := dT8) rfl rfl
  obtain ⟨_, F9⟩ := c.fun_ 8 (d := dT9) rfl rfl
  obtain ⟨_, F10⟩ := c.fun_ 9 (d := dT10) rfl rfl
  obtain ⟨_, F11⟩ := c.fun_ 10 (d := dT11) rfl rfl
  obtain ⟨_, F12⟩ := c.fun_ 11 (d := dT12) rfl rfl
  obtain ⟨_, F13⟩ := c.fun_ 12 (d := dT13) rfl rfl
  obtain ⟨_, F14⟩ := c.fun_ 13 (d := dT14) rfl rfl
  obtain ⟨_, F15⟩ := c.fun_ 14 (d := dT15) rfl rfl
  obtain ⟨_, F16⟩ := c.fun_ 15 (d := dT16) rfl rfl
  obtain ⟨_, F17⟩ := c.fun_ 16 (d := dT17) rfl rfl
  obtain ⟨_, F18⟩ := c.fun_ 17 (d := dT18) rfl rfl
  obtain ⟨_, F19⟩ := c.fun_ 18 (d := dT19) rfl rfl
  obtain ⟨_, F20⟩ := c.fun_ 19 (d := dT20) rfl rfl
  obtain ⟨_, F21⟩ := c.fun_ 20 (d := dT21) rfl rfl
  obtain ⟨_, F22⟩ := c.fun_ 21 (d := dT22) rfl rfl
  obtain ⟨_, F23⟩ := c.fun_ 22 (d := dT23) rfl rfl
  obtain ⟨_, F24⟩ := c.fun_ 23 (d := dT24) rfl rfl
  obtain ⟨_, F25⟩ := c.fun_ 24 (d := dT25) rfl rfl
  obtain ⟨_, F26⟩ := c.fun_ 25 (d := dT26) rfl rfl
  obtain ⟨_, F27⟩ := c.fun_ 26 (d := dT27) rfl rfl
  obtain ⟨_, F28⟩ := c.fun_ 27 (d := dT28) rfl rfl
  obtain ⟨_, F29⟩ := c.fun_ 28 (d := dT29) rfl rfl
  obtain ⟨_, F30⟩ := c.fun_ 29 (d := dT30) rfl rfl
  obtain ⟨_, F31⟩ := c.fun_ 30 (d := dT31) rfl rfl
  obtain ⟨_, F32⟩ := c.fun_ 31 (d := dT32) rfl rfl
  obtain ⟨_, F33⟩ := c.fun_ 32 (d := dT33) rfl rfl
  obtain ⟨_, F34⟩ := c.fun_ 33 (d := dT34) rfl rfl
  obtain ⟨_, F35⟩ := c.fun_ 34 (d := dT35) rfl rfl
  obtain ⟨_, F36⟩ := c.fun_ 35 (d := dT36) rfl rfl
  obtain ⟨_, F37⟩ := c.fun_ 36 (d := dT37) rfl rfl
  obtain ⟨_, F38⟩ := c.fun_ 37 (d := dT38) rfl rfl
  obtain ⟨_, F39⟩ := c.fun_ 38 (d := dT39) rfl rfl
  obtain ⟨_, F40⟩ := c.fun_ 39 (d := dT40) rfl rfl
  obtain ⟨_, F41⟩ := c.fun_ 40 (d := dT41) rfl rfl
  obtain ⟨_, F42⟩ := c.fun_ 41 (d := dT42) rfl rfl
  obtain ⟨_, F43⟩ := c.fun_ 42 (d := dT43) rfl rfl
  obtain ⟨_, F44⟩ := c.fun_ 43 (d := dT44) rfl rfl
  obtain ⟨_, F45⟩ := c.fun_ 44 (d := dT45) rfl rfl
  obtain ⟨_, F46⟩ := c.fun_ 45 (d := dT46) rfl rfl
  obtain ⟨_, F47⟩ := c.fun_ 46 (d := dT47) rfl rfl
  obtain ⟨_, F48⟩ := c.fun_ 47 (d := dT48) rfl rfl
  exact all_mk X G hfa (rfl : w = w) z0 z1 z2 z3 z4 z5 z6 z7 z8 z9 z10 z11 z12 z13 z14 z15 z16 z17 z18 z19 z20 s0 s1 s2 s3 s4 aP5 lP5 lit5 low5 p5_0 p5_1 p5_2 p5_3 s6 s7 s8 s9 s10 s11 s12 aC0 pg0 hd0 po0 sa0 mk0 kc0 n0_0 n0_1 n0_2 n0_3 n0_4 n0_5 n0_6 n0_7 ha0 hn0 htk0 hmo0 me0 sf0 is0 ne0 qn0_0 qn0_1 qn0_2 qn0_3 qn0_4 qn0_5 aC3 pg3 hd3 po3 sa3 mk3 kc3 n3_0 n3_1 ha3 hn3 htk3 hmo3 me3 sf3 is3 aC4 pg4 hd4 po4 sa4 mk4 kc4 n4_0 n4_1 n4_2 ha4 hn4 htk4 hmo4 me4 sf4 is4 nq4 aC33 xL33 sa33 eC33 tC33 kc33 ga33 gg33 hd33 no33 aC34 xL34 sa34 eC34 tC34 kc34 ga34 gg34 hd34 no34 aC100 e0100 kc100 eC100 tC100 ga100 gg100 hd100 aC101 e0101 kc101 eC101 tC101 ga101 gg101 hd101 aC40 ik33_40 ik34_40 ik100_40 ik101_40 it3_tuple ha33 hn33 htk33 hmo33 ha34 hn34 htk34 hmo34 ha100 hn100 htk100 hmo100 ha101 hn101 htk101 hmo101 xm33_33 xm34_34 xm34_33 xm100_100 xm101_100 xm101_101 aCW rdW gaW inW a1 F1 a2 F2 a3 F3 a4 i4 F4 k4 a5 F5 a6 i6 F6 k6 a7 i7 F7 k7 a8 F8 a9 F9 a10 F10 a11 i11 F11 k11 a12 pg_12 pt_12 pr_12 F12 a13 i13 F13 k13 a14 i14 F14 a15 F15 a16 i16 F16 k16 a17 F17 a18 i18 F18 k18 a19 i19 F19 a20 i20 F20 k20 a21 pg_21 pt_21 pr_21 F21 a22 i22 F22 k22 a23 i23 F23 k23 a24 i24 F24 k24 a25 i25 F25 k25 a26 i26 F26 k26 a27 i27 F27 k27 a28 i28 F28 k28 a29 i29 F29 k29 a30 i30 F30 k30 a31 F31 a32 F32 a33 F33 a34 F34 a35 F35 a36 F36 a37 F37 a38 F38 a39 F39 a40 F40 a41 F41 a42 F42 a43 F43 a44 F44 a45 F45 a46 F46 a47 F47 a48 F48
end N
open PySem PySem.W PySem.Calls PyProof.Rows
set_option maxRecDepth 100000 in
set_option maxHeartbeats 0 in
theorem PySem.Challenge.cw_allbeneath_k50_undone_and_made_again_holds : PySem.Challenge.rw_allbeneath_k50_undone_and_made_again.Holds := by
  w_on; o_law
  refine HandSHeadRun.head_any (r := N.RW_) (q := N.qW) (H := N.hkW) (ob := N.obW) (M := 40000) (loose := N.names) (d := HandSHeadRun.topDef N.RW_.prog 65) (kwd := []) N.obW_eq (by kernel_rfl) (fun s => by kernel_rfl) N.run_W
    (by kernel_rfl) (by kernel_rfl) (by kernel_rfl) (by rfl) (by first | assumption | decide +kernel) (by decide +kernel) ⟨rfl, rfl, rfl, rfl, rfl, by decide +kernel⟩ ?hw ?hc
  case hw => w_witness2
  case hc =>
    refine N.walkT (l := PySem.Challenge.rw_allbeneath_k50_undone_and_made_again) (n := 63) (k := 30) (sp := N.spTop) rfl (by decide) (by kernel_rfl) ⟨rfl, by decide, by decide⟩ (fun w h Y => Y) ?F ?G
    case G => exact fun K H a ns hl _ hS => ⟨a, ns, rfl, hS, hl, fun _ => rfl⟩
    case F =>
      intro w mg fa h K KX sy G hmg0 base _ _
      have hmg : mg ("law" : PySem.Str) = some (.ref fa) := by
        have e : (HandSHeadRun.topDef N.RW_.prog 65).name = ("law" : PySem.Str) := by kernel_rfl
        rw [← e]
        exact hmg0
      exact N.facts KX G hmg sy
